import PyProof.Rows.All
import Wide.All
import OpenK.AllK
import Wide.FinOn
import Open.SpecLaws
import KE.OsHead
import KE.OsGo
import HandS.ForSpec
import HandS.Comp
import HandS.Iter
import HandS.Zip
import HandS.Style
import HandS.SetFor
import HandS.Conv
import HandS.Evl
import PyFlatLaws
import PyVberac
import PySem.Challenge.RW_stickysensors_s01_answers
set_option Elab.async false
set_option linter.all false
set_option maxRecDepth 100000
set_option maxHeartbeats 4000000
/-! part Sk -/
/-! Sk: what a reading evaluates to, as a datum that a value stands for within a part G of the heap (the footprint); statements; lists that are built. -/
namespace Sk
open PySem PySem.Spec PyProof.Rows L2 Evl

/-! ### what stands for a datum -/
structure Rp where
  p : Hp → V → Prop
  mono : ∀ {G H : Hp} {v : V}, Ex G H → p G v → p H v
def dV (x : V) : Rp := ⟨fun _ v => v = x, fun _ h => h⟩
abbrev dI (i : Int) : Rp := dV (.int i)
abbrev dN (n : Nat) : Rp := dV (.int (n : Int))
abbrev dB (b : Bool) : Rp := dV (.bl b)
inductive All2 (G : Hp) : List Rp → List V → Prop
  | nil : All2 G [] []
  | cons {r : Rp} {v : V} {rs : List Rp} {vs : List V} : r.p G v → All2 G rs vs → All2 G (r :: rs) (v :: vs)
theorem All2.mono {G H : Hp} (e : Ex G H) : ∀ {rs : List Rp} {vs : List V}, All2 G rs vs → All2 H rs vs
  | _, _, .nil => .nil
  | _, _, .cons h t => .cons (Rp.mono _ e h) (All2.mono e t)
theorem All2.length {G : Hp} : ∀ {rs : List Rp} {vs : List V}, All2 G rs vs → vs.length = rs.length
  | _, _, .nil => rfl
  | _, _, .cons _ t => congrArg (· + 1) t.length
theorem All2.get {G : Hp} : ∀ {rs : List Rp} {vs : List V} {i : Nat} {r : Rp}, All2 G rs vs → rs[i]? = some r → ∃ v, vs[i]? = some v ∧ r.p G v
  | _, _, _, _, .nil, e => by simp at e
  | _, _, 0, _, .cons h _, e => by
    simp at e
    subst e
    exact ⟨_, rfl, h⟩
  | _, _, i + 1, r, .cons _ t, e => All2.get (i := i) (r := r) t (by simpa using e)
theorem All2.get' {G : Hp} : ∀ {rs : List Rp} {vs : List V} {i : Nat} {v : V}, All2 G rs vs → vs[i]? = some v → ∃ r, rs[i]? = some r ∧ r.p G v
  | _, _, _, _, .nil, e => by simp at e
  | _, _, 0, _, .cons h _, e => by
    simp at e
    subst e
    exact ⟨_, rfl, h⟩
  | _, _, i + 1, v, .cons _ t, e => All2.get' (i := i) (v := v) t (by simpa using e)
theorem All2.append {G : Hp} : ∀ {rs rs' : List Rp} {vs vs' : List V}, All2 G rs vs → All2 G rs' vs' → All2 G (rs ++ rs') (vs ++ vs')
  | _, _, _, _, .nil, s => s
  | _, _, _, _, .cons r t, s => .cons r (All2.append t s)
theorem All2.one {G : Hp} {r : Rp} {v : V} (h : r.p G v) : All2 G [r] [v] := .cons h .nil
theorem All2.inv1 {G : Hp} {r : Rp} {vs : List V} (h : All2 G [r] vs) : ∃ v, vs = [v] ∧ r.p G v := by
  cases h with
  | cons h t =>
    cases t
    exact ⟨_, rfl, h⟩
theorem All2.inv2 {G : Hp} {r s : Rp} {vs : List V} (h : All2 G [r, s] vs) : ∃ v w, vs = [v, w] ∧ r.p G v ∧ s.p G w := by
  cases h with
  | cons h t =>
    obtain ⟨w, rfl, q⟩ := t.inv1
    exact ⟨_, _, rfl, h, q⟩
theorem All2.take {G : Hp} : ∀ {rs : List Rp} {vs : List V} (n : Nat), All2 G rs vs → All2 G (rs.take n) (vs.take n)
  | _, _, 0, _ => .nil
  | _, _, _ + 1, .nil => .nil
  | _, _, n + 1, .cons r t => .cons r (All2.take n t)
theorem All2.drop {G : Hp} : ∀ {rs : List Rp} {vs : List V} (n : Nat), All2 G rs vs → All2 G (rs.drop n) (vs.drop n)
  | _, _, 0, r => r
  | _, _, _ + 1, .nil => .nil
  | _, _, n + 1, .cons _ t => All2.drop n t
theorem All2.reverse {G : Hp} : ∀ {rs : List Rp} {vs : List V}, All2 G rs vs → All2 G rs.reverse vs.reverse
  | _, _, .nil => .nil
  | _, _, .cons r t => by
    rw [List.reverse_cons, List.reverse_cons]
    exact t.reverse.append (.one r)
/-- values themselves -/
theorem All2.vals {α : Type} {G : Hp} (f : α → V) : ∀ (l : List α) {vs : List V}, All2 G (l.map fun a => dV (f a)) vs → vs = l.map f
  | [], _, h => by
    cases h
    rfl
  | a :: l, _, h => by
    cases h with
    | cons h t =>
      have e : _ = f a := h
      rw [e, All2.vals f l t, List.map_cons]
theorem All2.ofVals {α : Type} {G : Hp} (f : α → V) : ∀ (l : List α), All2 G (l.map fun a => dV (f a)) (l.map f)
  | [] => .nil
  | a :: l => .cons rfl (All2.ofVals f l)

section
variable (K : PySem.W.Frag)
def dLs (rs : List Rp) : Rp := ⟨fun G v => ∃ a xs, v = .ref a ∧ SqL K G a xs ∧ All2 G rs xs, fun e ⟨a, xs, h1, h2, h3⟩ => ⟨a, xs, h1, ex_l e h2, h3.mono e⟩⟩
def dTp (rs : List Rp) : Rp := ⟨fun G v => ∃ a xs, v = .ref a ∧ SqT K G a xs ∧ All2 G rs xs, fun e ⟨a, xs, h1, h2, h3⟩ => ⟨a, xs, h1, ex_t e h2, h3.mono e⟩⟩
def dL {α : Type} (f : α → Rp) (l : List α) : Rp := dLs K (l.map f)
/-- a list that is tracked (one that may be joined by +) -/
def dM (rs : List Rp) : Rp := ⟨fun G v => ∃ a xs, v = .ref a ∧ G a = some (.lst xs) ∧ All2 G rs xs, fun e ⟨a, xs, h1, h2, h3⟩ => ⟨a, xs, h1, e a _ h2, h3.mono e⟩⟩
end
theorem dM_ls {K : PySem.W.Frag} {rs : List Rp} {G : Hp} {v : V} (h : (dM rs).p G v) : (dLs K rs).p G v := by
  obtain ⟨a, xs, h1, h2, h3⟩ := h
  exact ⟨a, xs, h1, sq_of h2, h3⟩

/-! ### the heap grows: from the footprint G in H to the footprint G2 in H2 -/
structure Grow (G H G2 H2 : Hp) : Prop where
  gg : Ex G G2
  gh : Ex G2 H2
  hh : Ex H H2
  nw : ∀ a, G a = none → H a ≠ none → G2 a = none
theorem Grow.refl {G H : Hp} (h : Ex G H) : Grow G H G H := ⟨Ex.refl G, h, Ex.refl H, fun _ n _ => n⟩
theorem Grow.more {G H G2 H2 H3 : Hp} (g : Grow G H G2 H2) (e : Ex H2 H3) : Grow G H G2 H3 := ⟨g.gg, g.gh.trans e, g.hh.trans e, g.nw⟩
theorem Grow.less {G H H1 G2 H2 : Hp} (e : Ex H H1) (g : Grow G H1 G2 H2) : Grow G H G2 H2 := ⟨g.gg, g.gh, e.trans g.hh, fun a n h => g.nw a n fun z => h (by
  cases q : H a with
  | none => rfl
  | some o =>
    rw [e a o q] at z
    cases z)⟩
theorem ne_ex {H H2 : Hp} {a : Addr} (e : Ex H H2) (h : H a ≠ none) : H2 a ≠ none := fun z => h (by
  cases q : H a with
  | none => rfl
  | some o =>
    rw [e a o q] at z
    cases z)
theorem Grow.trans {G H G1 H1 G2 H2 : Hp} (a : Grow G H G1 H1) (b : Grow G1 H1 G2 H2) : Grow G H G2 H2 :=
  ⟨a.gg.trans b.gg, b.gh, a.hh.trans b.hh, fun c n h => b.nw c (a.nw c n h) (ne_ex a.hh h)⟩
theorem ex_upd2 {G H : Hp} {p : Addr} {o : HO} (e : Ex G H) : Ex (upd G p o) (upd H p o) := fun a u h => by
  by_cases hp : a = p
  · subst hp
    rw [upd_same] at h ⊢
    exact h
  · rw [upd_ne hp] at h ⊢
    exact e a u h
theorem Grow.new {G H : Hp} {p : Addr} {o : HO} (e : Ex G H) (h : H p = none) : Grow G H (upd G p o) (upd H p o) :=
  ⟨Ex.new (fresh_back e h), ex_upd2 e, Ex.new h, fun a n q => by
    rw [upd_ne (fun z => q (by rw [z]; exact h))]
    exact n⟩
/-- a new object in a heap that has grown -/
theorem Grow.laid {G H G1 H1 : Hp} {p : Addr} {o : HO} (g : Grow G H G1 H1) (h : H1 p = none) : Grow G H (upd G1 p o) (upd H1 p o) := g.trans (Grow.new g.gh h)
def join (G G2 : Hp) : Hp := fun a => match G a with
  | some o => some o
  | none => G2 a
theorem join_l (G G2 : Hp) : Ex G (join G G2) := fun a o h => by
  unfold join
  rw [h]
theorem join_r {G G2 H : Hp} (e : Ex G H) (e2 : Ex G2 H) : Ex G2 (join G G2) := fun a o h => by
  unfold join
  cases q : G a with
  | none => exact h
  | some u =>
    have := e a _ q
    rw [e2 a o h] at this
    exact this.symm
theorem join_in {G G2 H : Hp} (e : Ex G H) (e2 : Ex G2 H) : Ex (join G G2) H := fun a o h => by
  unfold join at h
  cases q : G a with
  | none =>
    rw [q] at h
    exact e2 a o h
  | some u =>
    rw [q] at h
    cases h
    exact e a _ q
theorem Grow.up {G G' H G2 H2 : Hp} (e : Ex G G') (e' : Ex G' H) (g : Grow G H G2 H2) : Grow G' H (join G' G2) H2 :=
  ⟨join_l _ _, join_in (e'.trans g.hh) g.gh, g.hh, fun a n h => by
    unfold join
    rw [n]
    exact g.nw a (fresh_back e n) h⟩
theorem Grow.upR {G G' H G2 H2 : Hp} (e' : Ex G' H) (g : Grow G H G2 H2) : Ex G2 (join G' G2) := join_r (e'.trans g.hh) g.gh

/-! ### expressions -/
def EvR (te : TE) (σ : L2.St) (G : Hp) (R : Rp) : Prop := ∀ H, Ex G H → ∀ Q : VK, (∀ v G2 H2, Grow G H G2 H2 → R.p G2 v → Q v H2) → te σ H Q
def EvAR (ta : TA) (σ : L2.St) (G : Hp) (Rs : List Rp) : Prop := ∀ H, Ex G H → ∀ Q : List V → Hp → Prop, (∀ vs G2 H2, Grow G H G2 H2 → All2 G2 Rs vs → Q vs H2) → ta σ H Q
section
variable {K : PySem.W.Frag} {σ : L2.St} {G G' H : Hp} {ta tb te tx : TE} {tl : TA} {t u : TT} {x y z v : V} {R S : Rp} {Rs : List Rp}
theorem er_of (h : Ev te σ G v) (hr : R.p G v) : EvR te σ G R := fun H e _ q => h H e _ fun H2 e2 => q v G H2 ((Grow.refl e).more e2) hr
theorem er_v (h : Ev te σ G v) : EvR te σ G (dV v) := er_of h rfl
theorem ev_r (h : EvR te σ G (dV v)) : Ev te σ G v := fun H e Q q => h H e Q fun w _ H2 g hw => by
  have e : w = v := hw
  rw [e]
  exact q H2 g.hh
theorem EvR.mono (e : Ex G G') (h : EvR te σ G R) : EvR te σ G' R := fun H e' Q q => h H (e.trans e') Q fun v _ H2 g hr => q v _ H2 (g.up e e') (Rp.mono _ (g.upR e') hr)
theorem EvR.imp (h : EvR te σ G R) (i : ∀ G2 v, Ex G G2 → R.p G2 v → S.p G2 v) : EvR te σ G S := fun H e Q q => h H e Q fun v G2 H2 g hr => q v G2 H2 g (i G2 v g.gg hr)
theorem er_var {i : Nat} (h : σ[i]? = some (some v)) (hr : R.p G v) : EvR (tVar i) σ G R := er_of (ev_var h) hr
theorem EvAR.mono (e : Ex G G') (h : EvAR tl σ G Rs) : EvAR tl σ G' Rs := fun H e' Q q => h H (e.trans e') Q fun vs _ H2 g hr => q vs _ H2 (g.up e e') (All2.mono (g.upR e') hr)
theorem ear_nil : EvAR tNil σ G [] := fun _ e _ q => q [] G _ (Grow.refl e) .nil
theorem ear_cons (h : EvR te σ G R) (hr : EvAR tl σ G Rs) : EvAR (tCons te tl) σ G (R :: Rs) := fun H e Q q =>
  h H e _ fun v G1 H1 g hv => hr.mono g.gg H1 g.gh _ fun vs G2 H2 g2 hvs => q (v :: vs) G2 H2 (g.trans g2) (.cons (R.mono g2.gg hv) hvs)
/-- an expression, then something by its value -/
theorem er_op {r : R2} (ha : EvR ta σ G R) (hb : EvR tb σ G S) {T : Rp}
    (hr : ∀ x y G1 H1, Ex G G1 → Ex G1 H1 → R.p G1 x → S.p G1 y → ∀ Q : VK, (∀ v G2 H2, Grow G1 H1 G2 H2 → T.p G2 v → Q v H2) → r x y H1 Q) : EvR (tOp r ta tb) σ G T := fun H e Q q =>
  ha H e _ fun x G1 H1 g hx => hb.mono g.gg H1 g.gh _ fun y G2 H2 g2 hy => hr x y G2 H2 (g.gg.trans g2.gg) g2.gh (R.mono g2.gg hx) hy Q fun v G3 H3 g3 hv => q v G3 H3 ((g.trans g2).trans g3) hv
/-- operations on known values -/
theorem ev_add {i j : Int} (ha : Ev ta σ G (.int i)) (hb : Ev tb σ G (.int j)) : Ev (tOp (rI0 fun i j => .int (i + j)) ta tb) σ G (.int (i + j)) := ev_op ha hb (rv_I0 (g := fun i j => V.int (i + j)))
theorem ev_sub {i j : Int} (ha : Ev ta σ G (.int i)) (hb : Ev tb σ G (.int j)) : Ev (tOp (rI0 fun i j => .int (i - j)) ta tb) σ G (.int (i - j)) := ev_op ha hb (rv_I0 (g := fun i j => V.int (i - j)))
theorem ev_lt {i j : Int} (ha : Ev ta σ G (.int i)) (hb : Ev tb σ G (.int j)) : Ev (tOp (rI0 fun i j => .bl (decide (i < j))) ta tb) σ G (.bl (decide (i < j))) := ev_op ha hb (rv_I0 (g := fun i j => V.bl (decide (i < j))))
theorem ev_le {i j : Int} (ha : Ev ta σ G (.int i)) (hb : Ev tb σ G (.int j)) : Ev (tOp (rI0 fun i j => .bl (decide (i ≤ j))) ta tb) σ G (.bl (decide (i ≤ j))) := ev_op ha hb (rv_I0 (g := fun i j => V.bl (decide (i ≤ j))))
theorem ev_gt {i j : Int} (ha : Ev ta σ G (.int i)) (hb : Ev tb σ G (.int j)) : Ev (tOp (rI0 fun i j => .bl (decide (j < i))) ta tb) σ G (.bl (decide (j < i))) := ev_op ha hb (rv_I0 (g := fun i j => V.bl (decide (j < i))))
theorem ev_ge {i j : Int} (ha : Ev ta σ G (.int i)) (hb : Ev tb σ G (.int j)) : Ev (tOp (rI0 fun i j => .bl (decide (j ≤ i))) ta tb) σ G (.bl (decide (j ≤ i))) := ev_op ha hb (rv_I0 (g := fun i j => V.bl (decide (j ≤ i))))
theorem ev_eq {i j : Int} (ha : Ev ta σ G (.int i)) (hb : Ev tb σ G (.int j)) : Ev (tOp rEq ta tb) σ G (.bl (decide (i = j))) := by
  have h := ev_op ha hb (rv_eq (H := G) (x := .int i) (y := .int j) rfl)
  have e : decide (V.int i = V.int j) = decide (i = j) := by
    by_cases q : i = j
    · rw [q, decide_eq_true rfl, decide_eq_true rfl]
    · rw [decide_eq_false q, decide_eq_false fun z => q (V.int.inj z)]
  rw [e] at h
  exact h
theorem ev_ne {i j : Int} (ha : Ev ta σ G (.int i)) (hb : Ev tb σ G (.int j)) : Ev (tOp rNe ta tb) σ G (.bl (!decide (i = j))) := by
  have h := ev_op ha hb (rv_ne (H := G) (x := .int i) (y := .int j) rfl)
  have e : decide (V.int i = V.int j) = decide (i = j) := by
    by_cases q : i = j
    · rw [q, decide_eq_true rfl, decide_eq_true rfl]
    · rw [decide_eq_false q, decide_eq_false fun z => q (V.int.inj z)]
  rw [e] at h
  exact h
theorem ev_neg {i : Int} (ha : Ev ta σ G (.int i)) : Ev (tUn (rU fun i => .int (-i)) ta) σ G (.int (-i)) := ev_un ha ru_neg
theorem ev_fdiv {i j : Int} (ha : Ev ta σ G (.int i)) (hb : Ev tb σ G (.int j)) (h : CDiv i j) : Ev (tOp (rI CDiv fun i j => .int (i / j)) ta tb) σ G (.int (i / j)) := ev_op ha hb (rv_I (g := fun i j => V.int (i / j)) h)
/-- x in a list of ints -/
theorem inV_ints {i : Int} {α : Type} (f : α → Int) (l : List α) : inV (.int i) (l.map fun a => V.int (f a)) = l.any fun a => decide (f a = i) := by
  unfold inV
  rw [List.any_map]
  refine congrArg (fun g => l.any g) (funext fun a => ?_)
  show eqV (V.int (f a)) (V.int i) = decide (f a = i)
  unfold eqV
  rfl
theorem flat_ints {α : Type} (f : α → Int) (l : List α) : (l.map fun a => V.int (f a)).all flatV = true := by
  rw [List.all_map, List.all_eq_true]
  intro a _
  rfl
theorem ev_inR {α : Type} {f : α → Int} {l : List α} {i : Int} (ha : Ev ta σ G (.int i)) (hb : EvR tb σ G (dL K (fun a => dI (f a)) l)) : Ev (tOp (rIn K false) ta tb) σ G (.bl (l.any fun a => decide (f a = i))) := fun H e Q q =>
  ha H e _ fun H1 e1 => hb H1 (e.trans e1) _ fun y G2 H2 g ⟨a, xs, ey, hs, hx⟩ => by
    have ex := All2.vals _ l hx
    subst ex
    refine ⟨a, _, ey, Or.inl (ex_l g.gh hs), rfl, flat_ints f l, ?_⟩
    rw [if_neg Bool.false_ne_true, inV_ints]
    exact q H2 (e1.trans g.hh)
theorem ev_notInR {α : Type} {f : α → Int} {l : List α} {i : Int} (ha : Ev ta σ G (.int i)) (hb : EvR tb σ G (dL K (fun a => dI (f a)) l)) : Ev (tOp (rIn K true) ta tb) σ G (.bl (!l.any fun a => decide (f a = i))) := fun H e Q q =>
  ha H e _ fun H1 e1 => hb H1 (e.trans e1) _ fun y G2 H2 g ⟨a, xs, ey, hs, hx⟩ => by
    have ex := All2.vals _ l hx
    subst ex
    refine ⟨a, _, ey, Or.inl (ex_l g.gh hs), rfl, flat_ints f l, ?_⟩
    rw [if_pos rfl, inV_ints]
    exact q H2 (e1.trans g.hh)
/-- a field -/
theorem ev_fld {a C dx : Addr} {fs : List (Str × V)} {f : Str} (ha : Ev ta σ G (.ref a)) (ho : G a = some (.ins C dx fs)) (hc : Cls K C) (hn : NoAttr K C f) (hl : fs.lookup f = some v) : Ev (tFld K ta f) σ G v := fun H e Q q =>
  ha H e _ fun H1 e1 => ⟨a, C, dx, fs, v, rfl, (e.trans e1) a _ ho, hc, hn, hl, q H1 e1⟩
/-- an item of a list of data -/
theorem er_ix {rs : List Rp} {j : Nat} (ha : EvR ta σ G (dLs K rs)) (hb : Ev tb σ G (.int (j : Int))) (hj : rs[j]? = some R) : EvR (tOp (rIxL K) ta tb) σ G R := fun H e Q q =>
  ha H e _ fun x G1 H1 g ⟨a, xs, ex, hs, hx⟩ => hb H1 (e.trans g.hh) _ fun H2 e2 => by
    obtain ⟨v, hv, hr⟩ := hx.get hj
    exact ⟨a, xs, (j : Int), v, ex, rfl, ex_l (g.gh.trans e2) hs, atI_nat hv, q v G1 H2 (g.more e2) hr⟩
theorem er_ixT {rs : List Rp} {j : Nat} (ha : EvR ta σ G (dTp K rs)) (hb : Ev tb σ G (.int (j : Int))) (hj : rs[j]? = some R) : EvR (tOp (rIxT K) ta tb) σ G R := fun H e Q q =>
  ha H e _ fun x G1 H1 g ⟨a, xs, ex, hs, hx⟩ => hb H1 (e.trans g.hh) _ fun H2 e2 => by
    obtain ⟨v, hv, hr⟩ := hx.get hj
    exact ⟨a, xs, (j : Int), v, ex, rfl, ex_t (g.gh.trans e2) hs, atI_nat hv, q v G1 H2 (g.more e2) hr⟩
/-- len of a list of data -/
theorem ev_lenR {rs : List Rp} (ha : EvR ta σ G (dLs K rs)) : Ev (tCB (rLenS K) (tCons ta tNil)) σ G (.int (rs.length : Int)) := fun H e Q q =>
  ha H e _ fun x G1 H1 g ⟨a, xs, ex, hs, hx⟩ => ⟨a, xs, by rw [ex], Or.inl (ex_l g.gh hs), by
    rw [hx.length]
    exact q H1 g.hh⟩
/-- displays -/
theorem er_lst (h : EvAR tl σ G Rs) (hl : Rs.length ≤ 100000) : EvR (tLst tl) σ G (dM Rs) := fun H e Q q =>
  h H e _ fun vs G1 H1 g hv => ⟨sz_of (by rw [hv.length]; exact hl), fun p hp => q (.ref p) _ _ (g.laid hp) ⟨p, vs, rfl, upd_same, hv.mono (Ex.new (fresh_back g.gh hp))⟩⟩
theorem er_tup (h : EvAR tl σ G Rs) (hl : Rs.length ≤ 100000) : EvR (tTup tl) σ G (dTp K Rs) := fun H e Q q =>
  h H e _ fun vs G1 H1 g hv => ⟨sz_of (by rw [hv.length]; exact hl), fun p hp => q (.ref p) _ _ (g.laid hp) ⟨p, vs, rfl, st_of upd_same, hv.mono (Ex.new (fresh_back g.gh hp))⟩⟩
/-- xs + ys, both tracked -/
theorem er_cat {rs ss : List Rp} (ha : EvR ta σ G (dM rs)) (hb : EvR tb σ G (dM ss)) (hl : rs.length + ss.length ≤ 1000000) : EvR (tOp rCat ta tb) σ G (dM (rs ++ ss)) :=
  er_op ha hb fun x y G1 H1 _ e1 ⟨a, xs, ex, ha, hx⟩ ⟨b, ys, ey, hb, hy⟩ Q q => ⟨a, b, xs, ys, ex, ey, e1 a _ ha, e1 b _ hb, by
    rw [hx.length, hy.length]
    exact Nat.le_trans hl (by decide), fun p hp => q (.ref p) _ _ (Grow.new e1 hp) ⟨p, _, rfl, upd_same, (hx.append hy).mono (Ex.new (fresh_back e1 hp))⟩⟩
/-- [x] * k -/
theorem er_rep {k : Nat} (ha : EvR ta σ G (dM [R])) (hb : Ev tb σ G (.int (k : Int))) (hk : k ≤ 100000) : EvR (tOp rRep ta tb) σ G (dM (List.replicate k R)) :=
  er_op ha (er_v hb) fun x y G1 H1 _ e1 ⟨a, xs, ex, ha, hx⟩ hy Q q => by
    obtain ⟨v, rfl, hv⟩ := hx.inv1
    refine ⟨a, (k : Int), [v], ex, hy, e1 a _ ha, by omega, by omega, ?_, fun p hp => q (.ref p) _ _ (Grow.new e1 hp) ⟨p, _, rfl, upd_same, ?_⟩⟩
    · show 1 * k ≤ sizeLine
      exact Nat.le_trans (by omega : 1 * k ≤ 100000) (by decide)
    · have e : ∀ n : Nat, All2 G1 (List.replicate n R) (List.replicate n [v]).flatten := fun n => by
        induction n with
        | zero => exact .nil
        | succ n ih =>
          rw [List.replicate_succ, List.replicate_succ, List.flatten_cons]
          exact .cons hv ih
      exact (e k).mono (Ex.new (fresh_back e1 hp))
/-- slices -/
theorem cutV_from {n : Nat} (xs : List V) : cutV xs (some (n : Int)) none = xs.drop n := by
  unfold cutV
  rw [HT.sIx_nat, HT.sIx_none]
  by_cases h : n ≤ xs.length
  · rw [Nat.min_eq_left h]
    exact List.take_of_length_le (by rw [List.length_drop]; omega)
  · rw [Nat.min_eq_right (by omega), List.drop_eq_nil_of_le (Nat.le_refl _), List.drop_eq_nil_of_le (by omega), List.take_nil]
theorem er_from {rs : List Rp} {n : Nat} (ha : EvR te σ G (dLs K rs)) (hb : Ev tb σ G (.int (n : Int))) : EvR (tSl (rSlL K) te (tPart tb) tNoPart) σ G (dM (rs.drop n)) := fun H e Q q =>
  ha H e _ fun x G1 H1 g ⟨a, xs, ex, hs, hx⟩ => hb H1 (e.trans g.hh) _ fun H2 e2 => ⟨(n : Int), rfl, a, xs, ex, ex_l (g.gh.trans e2) hs, fun p hp => by
    have g2 := (g.more e2).laid (o := .lst (xs.drop n)) hp
    rw [cutV_from]
    exact q (.ref p) _ _ g2 ⟨p, _, rfl, upd_same, (hx.drop n).mono (Ex.new (fresh_back (g.gh.trans e2) hp))⟩⟩
theorem er_revL {rs : List Rp} (ha : EvR te σ G (dLs K rs)) : EvR (tRevL K te) σ G (dM rs.reverse) := fun H e Q q =>
  ha H e _ fun x G1 H1 g ⟨a, xs, ex, hs, hx⟩ => ⟨a, xs, ex, ex_l g.gh hs, fun p hp => q (.ref p) _ _ (g.laid hp) ⟨p, _, rfl, upd_same, hx.reverse.mono (Ex.new (fresh_back g.gh hp))⟩⟩
/-- list(xs) -/
theorem er_list {rs : List Rp} (ha : EvR te σ G (dLs K rs)) : EvR (tCB (rListS K) (tCons te tNil)) σ G (dM rs) := fun H e Q q =>
  ha H e _ fun x G1 H1 g ⟨a, xs, ex, hs, hx⟩ => ⟨a, xs, by rw [ex], Or.inl (ex_l g.gh hs), fun p hp => q (.ref p) _ _ (g.laid hp) ⟨p, _, rfl, upd_same, hx.mono (Ex.new (fresh_back g.gh hp))⟩⟩
/-- list(range(n)) -/
theorem er_listRg {n : Nat} (ha : Ev te σ G (.int (n : Int))) (hn : n ≤ 100000) : EvR (tLstRg (tRg1 te)) σ G (dM ((List.range n).map dN)) := fun H e Q q =>
  ha H e _ fun H1 e1 => ⟨(n : Int), rfl, RgOk.of_le (by omega) (by omega) (by omega) (by omega), fun p hp => by
    have g2 := ((Grow.refl e).more e1).laid (o := .lst (rgV 0 (n : Int))) hp
    refine q (.ref p) _ _ g2 ⟨p, _, rfl, upd_same, ?_⟩
    have ev : rgV 0 (n : Int) = (List.range n).map fun (i : Nat) => V.int (i : Int) := by
      unfold rgV
      rw [Int.sub_zero, Int.toNat_natCast]
      refine congrArg (fun f => (List.range n).map f) (funext fun i => ?_)
      rw [Int.zero_add]
    rw [ev]
    exact All2.ofVals _ _⟩
/-- a if t else b -/
theorem er_if {b : Bool} (h : EvT t σ G b) (h1 : b = true → EvR ta σ G R) (h2 : b = false → EvR tb σ G R) : EvR (tIf t ta tb) σ G R := fun H e Q q => h H e _ fun H1 e1 => by
  cases b with
  | true =>
    show ta σ H1 Q
    exact h1 rfl H1 (e.trans e1) Q fun v G2 H2 g hr => q v G2 H2 (g.less e1) hr
  | false =>
    show tb σ H1 Q
    exact h2 rfl H1 (e.trans e1) Q fun v G2 H2 g hr => q v G2 H2 (g.less e1) hr
end

/-! ### promises -/
/-- from data within G (told by pre, with what is handed back) -/
def pSp (pre : List V → Hp → Rp → Prop) : Sp := fun vs H Q _ => ∃ G R, Ex G H ∧ pre vs G R ∧ ∀ v G2 H2, Grow G H G2 H2 → R.p G2 v → Q v H2
/-- the same, the answer a new list -/
def nSp (pre : List V → Hp → List V → Prop) : Sp := fun vs H Q _ => ∃ G xs, Ex G H ∧ pre vs G xs ∧ ∀ p H2, H p = none → Ex H H2 → H2 p = some (.lst xs) → Q (.ref p) H2
section
variable {K : PySem.W.Frag} {σ : L2.St} {G : Hp} {tl : TA} {R : Rp} {Rs : List Rp} {E : XK}
theorem er_call {pre : List V → Hp → Rp → Prop} (h : EvAR tl σ G Rs) (hp : ∀ vs G1, Ex G G1 → All2 G1 Rs vs → pre vs G1 R) : EvR (tCall (pSp pre) [] E tl) σ G R := fun H e Q q =>
  h H e _ fun vs G1 H1 g hv => ⟨G1, R, g.gh, by
    rw [List.append_nil]
    exact hp vs G1 g.gg hv, fun v G2 H2 g2 hr => q v G2 H2 (g.trans g2) hr⟩
end
end Sk
/-! part Sk2 -/
namespace Sk
open PySem PySem.Spec PyProof.Rows L2 Evl

/-! ### targets -/
def TgOk (g : TG) (σ : L2.St) (x : V) (G : Hp) (σ2 : L2.St) : Prop := ∀ H, Ex G H → ∀ Q : L2.St → Hp → Prop, Q σ2 H → g x σ H Q
theorem tg_name {j : Nat} {σ : L2.St} {x : V} {G : Hp} : TgOk (gName j) σ x G (σ.set j (some x)) := fun _ _ _ q => q
theorem tg_two {K : PySem.W.Frag} {i j : Nat} {σ : L2.St} {x y z : V} {G : Hp} {a : Addr} (hx : x = .ref a) (h : SqT K G a [y, z]) : TgOk (gTup K 2 (gCons (gName i) (gCons (gName j) gNil))) σ x G ((σ.set i (some y)).set j (some z)) :=
  fun H e Q q => ⟨a, [y, z], hx, ex_t e h, rfl, y, [z], rfl, z, [], rfl, rfl, q⟩
theorem tp_two {K : PySem.W.Frag} {R S : Rp} {G : Hp} {v : V} (h : (dTp K [R, S]).p G v) : ∃ a x y, v = .ref a ∧ SqT K G a [x, y] ∧ R.p G x ∧ S.p G y := by
  obtain ⟨a, xs, e, hs, hx⟩ := h
  obtain ⟨x, y, rfl, h1, h2⟩ := hx.inv2
  exact ⟨a, x, y, e, hs, h1, h2⟩

/-! ### a heap whose list at p changes -/
structure GrowP (p : Addr) (G H G2 H2 : Hp) : Prop where
  gg : Ex G G2
  gn : G2 p = none
  gh : Ex G2 H2
  hh : ∀ c o, c ≠ p → H c = some o → H2 c = some o
  nw : ∀ c, c ≠ p → G c = none → H c ≠ none → G2 c = none
theorem GrowP.start {p : Addr} {G H : Hp} (e : Ex G H) (h : G p = none) : GrowP p G H G H := ⟨Ex.refl G, h, e, fun _ _ _ q => q, fun _ _ n _ => n⟩
theorem GrowP.step {p : Addr} {G H G1 H1 G2 H2 : Hp} (g : GrowP p G H G1 H1) (hp : H1 p ≠ none) (b : Grow G1 H1 G2 H2) : GrowP p G H G2 H2 :=
  ⟨g.gg.trans b.gg, b.nw p g.gn hp, b.gh, fun c o n q => b.hh c o (g.hh c o n q), fun c n q h => b.nw c (g.nw c n q h) (by
    cases e : H c with
    | none => exact (h e).elim
    | some o =>
      rw [g.hh c o n e]
      exact fun z => nomatch z)⟩
theorem GrowP.trans {p : Addr} {G H G1 H1 G2 H2 : Hp} (g : GrowP p G H G1 H1) (b : GrowP p G1 H1 G2 H2) : GrowP p G H G2 H2 :=
  ⟨g.gg.trans b.gg, b.gn, b.gh, fun c o n q => b.hh c o n (g.hh c o n q), fun c n q h => b.nw c n (g.nw c n q h) (by
    cases e : H c with
    | none => exact (h e).elim
    | some o =>
      rw [g.hh c o n e]
      exact fun z => nomatch z)⟩
theorem ex_wr {p : Addr} {G H : Hp} {o : HO} (e : Ex G H) (h : G p = none) : Ex G (upd H p o) := fun c u q => by
  rw [upd_ne (ne_of_none q h)]
  exact e c u q
theorem GrowP.wr {p : Addr} {G H G1 H1 : Hp} {o : HO} (g : GrowP p G H G1 H1) : GrowP p G H G1 (upd H1 p o) :=
  ⟨g.gg, g.gn, ex_wr g.gh g.gn, fun c u n q => by
    rw [upd_ne n]
    exact g.hh c u n q, g.nw⟩
theorem GrowP.more {p : Addr} {G H G1 H1 H2 : Hp} (g : GrowP p G H G1 H1) (e : Ex H1 H2) : GrowP p G H G1 H2 := ⟨g.gg, g.gn, g.gh.trans e, fun c o n q => e c o (g.hh c o n q), g.nw⟩
/-- the list is done -/
theorem GrowP.fin {p : Addr} {G H G1 H1 : Hp} {o u : HO} (h : H p = none) (g : GrowP p G (upd H p u) G1 H1) (hp : H1 p = some o) : Grow G H (upd G1 p o) H1 := by
  refine ⟨fun c x q => ?_, fun c x q => ?_, fun c x q => ?_, fun c q n => ?_⟩
  · have q1 := g.gg c x q
    rw [upd_ne (ne_of_none q1 g.gn)]
    exact q1
  · by_cases e : c = p
    · subst e
      rw [upd_same] at q
      rw [← q]
      exact hp
    · rw [upd_ne e] at q
      exact g.gh c x q
  · have e : c ≠ p := ne_of_none q h
    refine g.hh c x e ?_
    rw [upd_ne e]
    exact q
  · have e : c ≠ p := fun z => n (by rw [z]; exact h)
    rw [upd_ne e]
    refine g.nw c e q ?_
    rw [upd_ne e]
    exact n

/-! ### comprehensions -/
section
variable {K : PySem.W.Frag} {σ : L2.St} {G : Hp} {tl te : TE} {tt : TT} {g : TG} {vs : List Nat}
theorem take_succ {α : Type} {l : List α} {i : Nat} {a : α} (h : l[i]? = some a) : l.take (i + 1) = l.take i ++ [a] := by
  rw [List.take_add_one, h]
  rfl
/-- a turn of a comprehension that has so far acc at D -/
def Lw (D : Addr) (G H : Hp) (rs : List Rp) (H' : Hp) : Prop := ∃ G' acc, GrowP D G H G' H' ∧ H' D = some (.lst acc) ∧ All2 G' rs acc
theorem lw_turn' {D : Addr} {H H' : Hp} {rs rs' : List Rp} {b : Bool} {R : Rp} {σ2 : L2.St} {G' : Hp} {acc : List V} (gp : GrowP D G H G' H') (hD : H' D = some (.lst acc)) (ha : All2 G' rs acc) (hn : rs.length < 1000000)
    (ht : EvT tt σ2 G' b) (he : b = true → EvR te σ2 G' R) (e : rs' = if b then rs ++ [R] else rs) :
    tt σ2 H' fun b H3 => if b = true then te σ2 H3 fun y H4 => ∃ acc, H4 D = some (.lst acc) ∧ acc.length < sizeLine ∧ Lw D G H rs' (upd H4 D (.lst (acc ++ [y]))) else Lw D G H rs' H3 := by
  subst e
  refine ht H' gp.gh _ fun H3 e3 => ?_
  cases b with
  | true =>
    show te σ2 H3 fun y H4 => ∃ acc, H4 D = some (.lst acc) ∧ acc.length < sizeLine ∧ Lw D G H (rs ++ [R]) (upd H4 D (.lst (acc ++ [y])))
    have hD3 : H3 D = some (.lst acc) := e3 D _ hD
    refine he rfl H3 (gp.gh.trans e3) _ fun v G4 H4 g4 hv => ⟨acc, g4.hh D _ hD3, ?_, ?_⟩
    · rw [ha.length]
      exact Nat.lt_of_lt_of_le hn (by decide)
    · exact ⟨G4, acc ++ [v], ((gp.more e3).step (by rw [hD3]; exact fun z => nomatch z) g4).wr, upd_same, (ha.mono g4.gg).append (.one hv)⟩
  | false =>
    show Lw D G H rs H3
    exact ⟨G', acc, gp.more e3, e3 D _ hD, ha⟩
theorem filt_snoc {α : Type} (keep : α → Bool) (h : α → Rp) (l : List α) (a : α) : ((l ++ [a]).filter keep).map h = if keep a then (l.filter keep).map h ++ [h a] else (l.filter keep).map h := by
  rw [List.filter_append, List.map_append, List.filter_cons]
  cases keep a with
  | true => rfl
  | false =>
    show _ ++ [] = _
    rw [List.append_nil]
    rfl
theorem filt_len {α : Type} (keep : α → Bool) (h : α → Rp) (l : List α) : ((l.filter keep).map h).length ≤ l.length := by
  rw [List.length_map]
  exact List.length_filter_le _ _
/-- [e for x in l if t] -/
theorem er_lc {α : Type} (l : List α) (f : α → Rp) (keep : α → Bool) (h : α → Rp) (hlen : l.length ≤ 500000) (hsrc : EvR tl σ G (dL K f l))
    (ht : ∀ (a : α) (x : V) (G1 : Hp), a ∈ l → Ex G G1 → (f a).p G1 x → ∃ σ2, TgOk g (wipe σ vs) x G1 σ2 ∧ wipe σ2 vs = wipe σ vs ∧ EvT tt σ2 G1 (keep a) ∧ (keep a = true → EvR te σ2 G1 (h a))) :
    EvR (tLc (iList K tl) g tt te vs) σ G (dM ((l.filter keep).map h)) := fun H e Q q => hsrc H e _ fun v G1 H1 g1 ⟨a, xs, ev, hs, hx⟩ => by
  have hxl : xs.length = l.length := by rw [hx.length, List.length_map]
  refine ⟨a, ev, ⟨xs, ex_l g1.gh hs⟩, fun D hD => ?_⟩
  have hG1 : G1 D = none := fresh_back g1.gh hD
  refine lc_list (K := K) (a := a) (xs := xs) (fun i H' => Lw D G1 (upd H1 D (.lst [])) (((l.take i).filter keep).map h) H') ⟨G1, [], GrowP.start (ex_wr g1.gh hG1) hG1, upd_same, .nil⟩
    (fun i H' _ ⟨G', acc, gp, _, _⟩ => ex_l (gp.gg.trans gp.gh) hs) (fun i x H' hi ⟨G', acc, gp, hDD, hacc⟩ => ?_) (fun H' ⟨G', acc, gp, hDD, hacc⟩ => ?_)
  · obtain ⟨R, hR, hRx⟩ := hx.get' hi
    rw [List.getElem?_map] at hR
    obtain ⟨a', ha', rfl⟩ := Option.map_eq_some_iff.mp hR
    obtain ⟨σ2, tg, hw, hte, hre⟩ := ht a' x G' (List.mem_of_getElem? ha') (g1.gg.trans gp.gg) ((f a').mono gp.gg hRx)
    refine tg H' gp.gh _ ⟨hw, lw_turn' gp hDD hacc ?_ hte hre ?_⟩
    · have h1 := filt_len keep h (l.take i)
      have h2 : (l.take i).length ≤ l.length := by
        rw [List.length_take]
        exact Nat.min_le_right _ _
      omega
    · rw [take_succ ha', filt_snoc]
  · rw [hxl, List.take_length] at hacc
    exact q (.ref D) _ _ (g1.trans (gp.fin hD hDD)) ⟨D, acc, rfl, upd_same, hacc.mono (Ex.new gp.gn)⟩
/-- .. over range(n) -/
theorem er_lcR1 {ta : TA} (n : Nat) (keep : Nat → Bool) (h : Nat → Rp) (hlen : n ≤ 500000) (hsrc : EvA ta σ G [.int (n : Int)])
    (ht : ∀ (i : Nat) (G1 : Hp), i < n → Ex G G1 → ∃ σ2, TgOk g (wipe σ vs) (.int (i : Int)) G1 σ2 ∧ wipe σ2 vs = wipe σ vs ∧ EvT tt σ2 G1 (keep i) ∧ (keep i = true → EvR te σ2 G1 (h i))) :
    EvR (tLc (iRng1 ta) g tt te vs) σ G (dM (((List.range n).filter keep).map h)) := fun H e Q q => hsrc H e _ fun H1 e1 => by
  refine ⟨(n : Int), rfl, by omega, by omega, fun D hD => ?_⟩
  rw [Int.toNat_natCast]
  have hG : G D = none := fresh_back (e.trans e1) hD
  refine lc_range (lo := 0) (n := n) (fun i H' => Lw D G (upd H1 D (.lst [])) (((List.range i).filter keep).map h) H') ⟨G, [], GrowP.start (ex_wr (e.trans e1) hG) hG, upd_same, .nil⟩
    (fun i H' hi ⟨G', acc, gp, hDD, hacc⟩ => ?_) (fun H' ⟨G', acc, gp, hDD, hacc⟩ => ?_)
  · have e0 : (0 : Int) + (i : Int) = (i : Int) := Int.zero_add _
    obtain ⟨σ2, tg, hw, hte, hre⟩ := ht i G' hi gp.gg
    rw [e0]
    refine tg H' gp.gh _ ⟨hw, lw_turn' gp hDD hacc ?_ hte hre ?_⟩
    · have h1 := filt_len keep h (List.range i)
      rw [List.length_range] at h1
      omega
    · rw [List.range_succ, filt_snoc]
  · exact q (.ref D) _ _ (((Grow.refl e).more e1).trans (gp.fin hD hDD)) ⟨D, acc, rfl, upd_same, hacc.mono (Ex.new gp.gn)⟩
/-- .. over range(lo, lo + n) -/
theorem er_lcR2 {ta : TA} (lo n : Nat) (hi : Int) (en : (hi - (lo : Int)).toNat = n) (keep : Nat → Bool) (h : Nat → Rp) (hlo : lo ≤ 500000) (hb : 0 ≤ hi ∧ hi ≤ 500000) (hsrc : EvA ta σ G [.int (lo : Int), .int hi])
    (ht : ∀ (i : Nat) (G1 : Hp), i < n → Ex G G1 → ∃ σ2, TgOk g (wipe σ vs) (.int ((lo + i : Nat) : Int)) G1 σ2 ∧ wipe σ2 vs = wipe σ vs ∧ EvT tt σ2 G1 (keep (lo + i)) ∧ (keep (lo + i) = true → EvR te σ2 G1 (h (lo + i)))) :
    EvR (tLc (iRng2 ta) g tt te vs) σ G (dM ((((List.range n).map fun i => lo + i).filter keep).map h)) := fun H e Q q => hsrc H e _ fun H1 e1 => by
  refine ⟨(lo : Int), hi, rfl, ⟨by omega, by omega, by omega, by omega⟩, fun D hD => ?_⟩
  rw [en]
  have hG : G D = none := fresh_back (e.trans e1) hD
  refine lc_range (lo := (lo : Int)) (n := n) (fun i H' => Lw D G (upd H1 D (.lst [])) ((((List.range i).map fun i => lo + i).filter keep).map h) H') ⟨G, [], GrowP.start (ex_wr (e.trans e1) hG) hG, upd_same, .nil⟩
    (fun i H' hin ⟨G', acc, gp, hDD, hacc⟩ => ?_) (fun H' ⟨G', acc, gp, hDD, hacc⟩ => ?_)
  · have e0 : (lo : Int) + (i : Int) = ((lo + i : Nat) : Int) := by omega
    obtain ⟨σ2, tg, hw, hte, hre⟩ := ht i G' hin gp.gg
    rw [e0]
    refine tg H' gp.gh _ ⟨hw, lw_turn' gp hDD hacc ?_ hte hre ?_⟩
    · have h1 := filt_len keep h ((List.range i).map fun i => lo + i)
      have h2 : ((List.range i).map fun i => lo + i).length = i := by rw [List.length_map, List.length_range]
      omega
    · rw [List.range_succ, List.map_append]
      exact filt_snoc keep h _ (lo + i)
  · exact q (.ref D) _ _ (((Grow.refl e).more e1).trans (gp.fin hD hDD)) ⟨D, acc, rfl, upd_same, hacc.mono (Ex.new gp.gn)⟩
end
end Sk
/-! part Sk3 -/
namespace Sk
open PySem PySem.Spec PyProof.Rows L2 Evl

/-! ### statements: what is handed back stands for R; behind it N of the slots and the footprint -/
def St (ts : TS) (σ : L2.St) (G : Hp) (N : L2.St → Hp → Prop) (R : Rp) : Prop :=
  ∀ (H : Hp) (D : Ends), Ex G H → (∀ v G2 H2, Grow G H G2 H2 → R.p G2 v → D.rt v H2) → (∀ σ2 G2 H2, Grow G H G2 H2 → N σ2 G2 → D.nx σ2 H2) → ts D σ H
abbrev noN : L2.St → Hp → Prop := fun _ _ => False
section
variable {K : PySem.W.Frag} {σ : L2.St} {G : Hp} {ta tb te tx tl : TE} {t u : TT} {x y z v : V} {R S : Rp} {Rs : List Rp} {N M : L2.St → Hp → Prop} {ts tu tw : TS} {g : TG}
theorem pbody {H : Hp} {Q : VK} (h : St ts σ G noN R) (e : Ex G H) (q : ∀ v G2 H2, Grow G H G2 H2 → R.p G2 v → Q v H2) : ts { nx := fun _ H' => Q .non H', rt := Q } σ H := h H _ e q fun _ _ _ _ n => n.elim
theorem St.to (h : St ts σ G M R) (i : ∀ σ2 G2, Ex G G2 → M σ2 G2 → N σ2 G2) : St ts σ G N R := fun H D e q k => h H D e q fun σ2 G2 H2 g m => k σ2 G2 H2 g (i σ2 G2 g.gg m)
theorem st_seq (h : St ts σ G M R) (k : ∀ σ2 G2, Ex G G2 → M σ2 G2 → St tu σ2 G2 N R) : St (tSeq ts tu) σ G N R := fun H D e q n =>
  h H { D with nx := tu D } e q fun σ2 G2 H2 g m => k σ2 G2 g.gg m H2 D g.gh (fun v G3 H3 g3 hr => q v G3 H3 (g.trans g3) hr) fun σ3 G3 H3 g3 hn => n σ3 G3 H3 (g.trans g3) hn
theorem st_ret (h : EvR te σ G R) : St (tRet te) σ G N R := fun H D e q _ => h H e _ q
theorem st_next (h : N σ G) : St tNext σ G N R := fun H D e _ n => n σ G H (Grow.refl e) h
theorem st_if {b : Bool} (h : EvT t σ G b) (h1 : b = true → St tu σ G N R) (h2 : b = false → St tw σ G N R) : St (tIfS t tu tw) σ G N R := fun H D e q n => h H e _ fun H1 e1 => by
  cases b with
  | true =>
    show tu D σ H1
    exact h1 rfl H1 D (e.trans e1) (fun v G2 H2 g hr => q v G2 H2 (g.less e1) hr) fun σ2 G2 H2 g hn => n σ2 G2 H2 (g.less e1) hn
  | false =>
    show tw D σ H1
    exact h2 rfl H1 D (e.trans e1) (fun v G2 H2 g hr => q v G2 H2 (g.less e1) hr) fun σ2 G2 H2 g hn => n σ2 G2 H2 (g.less e1) hn
/-- name = a datum | a known value; then the rest -/
theorem st_asg {i : Nat} (h : EvR te σ G S) (k : ∀ x G2, Ex G G2 → S.p G2 x → N (σ.set i (some x)) G2) : St (tAsg te (gName i)) σ G N R := fun H D e _ n =>
  h H e _ fun x G2 H2 g hx => n _ G2 H2 g (k x G2 g.gg hx)
theorem q_asgR {i : Nat} (h : EvR te σ G S) (k : ∀ x G2, Ex G G2 → S.p G2 x → St tu (σ.set i (some x)) G2 N R) : St (tSeq (tAsg te (gName i)) tu) σ G N R :=
  st_seq (M := fun σ2 G2 => ∃ x, σ2 = σ.set i (some x) ∧ S.p G2 x) (st_asg h fun x G2 _ hx => ⟨x, rfl, hx⟩) fun σ2 G2 e ⟨x, es, hx⟩ => by
    rw [es]
    exact k x G2 e hx
theorem q_asgV {i : Nat} (h : Ev te σ G v) (k : St tu (σ.set i (some v)) G N R) : St (tSeq (tAsg te (gName i)) tu) σ G N R := fun H D e q n =>
  h H e _ fun H1 e1 => k H1 D (e.trans e1) (fun v G2 H2 g hr => q v G2 H2 (g.less e1) hr) fun σ2 G2 H2 g hn => n σ2 G2 H2 (g.less e1) hn
/-- a, b = a pair -/
theorem q_asg2 {i j : Nat} {R1 R2 : Rp} (h : EvR te σ G (dTp K [R1, R2])) (k : ∀ x y G2, Ex G G2 → R1.p G2 x → R2.p G2 y → St tu ((σ.set i (some x)).set j (some y)) G2 N R) :
    St (tSeq (tAsg te (gTup K 2 (gCons (gName i) (gCons (gName j) gNil)))) tu) σ G N R := fun H D e q n =>
  h H e _ fun v G2 H2 g hv => by
    obtain ⟨a, x, y, ev, hs, hx, hy⟩ := tp_two hv
    exact tg_two (i := i) (j := j) ev hs H2 g.gh _ (k x y G2 g.gg hx hy H2 D g.gh (fun v G3 H3 g3 hr => q v G3 H3 (g.trans g3) hr) fun σ3 G3 H3 g3 hn => n σ3 G3 H3 (g.trans g3) hn)
theorem q_if {b : Bool} (h : EvT t σ G b) (h1 : b = true → St tu σ G noN R) (k : b = false → St tw σ G N R) : St (tSeq (tIfS t tu tNext) tw) σ G N R :=
  st_seq (M := fun σ2 G2 => b = false ∧ σ2 = σ ∧ G2 = G) (st_if h (fun hb => (h1 hb).to fun _ _ _ f => f.elim) fun hb => st_next ⟨hb, rfl, rfl⟩) fun σ2 G2 _ ⟨hb, es, eg⟩ => by
    rw [es, eg]
    exact k hb
/-- for x in l -/
theorem st_for {α : Type} (l : List α) (f : α → Rp) (I : Nat → L2.St → Hp → Prop) (hsrc : EvR tl σ G (dL K f l)) (h0 : ∀ G1, Ex G G1 → I 0 σ G1)
    (hs : ∀ i a x σ' G', l[i]? = some a → Ex G G' → (f a).p G' x → I i σ' G' → ∃ σ2, TgOk g σ' x G' σ2 ∧ St tu σ2 G' (I (i + 1)) R) : St (tFor (iList K tl) g tu) σ G (I l.length) R := fun H D e q n =>
  hsrc H e _ fun v G1 H1 g1 ⟨a, xs, ev, hsq, hx⟩ => by
    have hxl : xs.length = l.length := by rw [hx.length, List.length_map]
    refine ⟨a, ev, ⟨xs, ex_l g1.gh hsq⟩, for_list (K := K) (a := a) (xs := xs) (fun i σ' H' => ∃ G', Grow G1 H1 G' H' ∧ I i σ' G') ⟨G1, Grow.refl g1.gh, h0 G1 g1.gg⟩
      (fun i σ' H' _ ⟨G', gr, _⟩ => ex_l (gr.gg.trans gr.gh) hsq) (fun i x σ' H' hi ⟨G', gr, hI⟩ => ?_) (fun σ' H' ⟨G', gr, hI⟩ => ?_)⟩
    · obtain ⟨r, hr, hrx⟩ := hx.get' hi
      rw [List.getElem?_map] at hr
      obtain ⟨a', ha', rfl⟩ := Option.map_eq_some_iff.mp hr
      obtain ⟨σ2, tg, hst⟩ := hs i a' x σ' G' ha' (g1.gg.trans gr.gg) ((f a').mono gr.gg hrx) hI
      exact tg H' gr.gh _ (hst H' _ gr.gh (fun v G2 H2 g2 hv => q v G2 H2 ((g1.trans gr).trans g2) hv) fun σ3 G3 H3 g3 hn => ⟨G3, gr.trans g3, hn⟩)
    · rw [hxl] at hI
      exact n σ' G' H' (g1.trans gr) hI
theorem st_forR1 {tA : TA} (m : Nat) (I : Nat → L2.St → Hp → Prop) (hsrc : EvA tA σ G [.int (m : Int)]) (hm : m ≤ 1000000) (h0 : I 0 σ G)
    (hs : ∀ i σ' G', i < m → Ex G G' → I i σ' G' → ∃ σ2, TgOk g σ' (.int (i : Int)) G' σ2 ∧ St tu σ2 G' (I (i + 1)) R) : St (tFor (iRng1 tA) g tu) σ G (I m) R := fun H D e q n =>
  hsrc H e _ fun H1 e1 => by
    refine ⟨(m : Int), rfl, by omega, by omega, ?_⟩
    rw [Int.toNat_natCast]
    refine for_range (lo := 0) (n := m) (fun i σ' H' => ∃ G', Grow G H1 G' H' ∧ I i σ' G') ⟨G, Grow.refl (e.trans e1), h0⟩ (fun i σ' H' hi ⟨G', gr, hI⟩ => ?_) (fun σ' H' ⟨G', gr, hI⟩ => n σ' G' H' (gr.less e1) hI)
    have e0 : (0 : Int) + (i : Int) = (i : Int) := Int.zero_add _
    obtain ⟨σ2, tg, hst⟩ := hs i σ' G' hi gr.gg hI
    rw [e0]
    exact tg H' gr.gh _ (hst H' _ gr.gh (fun v G2 H2 g2 hv => q v G2 H2 ((gr.less e1).trans g2) hv) fun σ3 G3 H3 g3 hn => ⟨G3, gr.trans g3, hn⟩)
theorem st_forR2 {tA : TA} (lo m : Nat) (hi : Int) (em : (hi - (lo : Int)).toNat = m) (I : Nat → L2.St → Hp → Prop) (hsrc : EvA tA σ G [.int (lo : Int), .int hi]) (hm : lo ≤ 1000000 ∧ -1000000 ≤ hi ∧ hi ≤ 1000000) (h0 : I 0 σ G)
    (hs : ∀ i σ' G', i < m → Ex G G' → I i σ' G' → ∃ σ2, TgOk g σ' (.int ((lo + i : Nat) : Int)) G' σ2 ∧ St tu σ2 G' (I (i + 1)) R) : St (tFor (iRng2 tA) g tu) σ G (I m) R := fun H D e q n =>
  hsrc H e _ fun H1 e1 => by
    refine ⟨(lo : Int), hi, rfl, ⟨by omega, by omega, by omega, by omega⟩, ?_⟩
    rw [em]
    refine for_range (lo := (lo : Int)) (n := m) (fun i σ' H' => ∃ G', Grow G H1 G' H' ∧ I i σ' G') ⟨G, Grow.refl (e.trans e1), h0⟩ (fun i σ' H' hi ⟨G', gr, hI⟩ => ?_) (fun σ' H' ⟨G', gr, hI⟩ => n σ' G' H' (gr.less e1) hI)
    have e0 : (lo : Int) + (i : Int) = ((lo + i : Nat) : Int) := by omega
    obtain ⟨σ2, tg, hst⟩ := hs i σ' G' hi gr.gg hI
    rw [e0]
    exact tg H' gr.gh _ (hst H' _ gr.gh (fun v G2 H2 g2 hv => q v G2 H2 ((gr.less e1).trans g2) hv) fun σ3 G3 H3 g3 hn => ⟨G3, gr.trans g3, hn⟩)
/-- for x, y in zip(l, m), of one length -/
theorem st_forZ {α β : Type} {tA : TA} (l : List α) (m : List β) (f : α → Rp) (f' : β → Rp) (I : Nat → L2.St → Hp → Prop) (hlen : l.length = m.length) (hsrc : EvAR tA σ G [dL K f l, dL K f' m]) (h0 : ∀ G1, Ex G G1 → I 0 σ G1)
    (hs : ∀ i a b x y T σ' G', l[i]? = some a → m[i]? = some b → Ex G G' → (f a).p G' x → (f' b).p G' y → SqT K G' T [x, y] → I i σ' G' → ∃ σ2, TgOk g σ' (.ref T) G' σ2 ∧ St tu σ2 G' (I (i + 1)) R)
    (hI : ∀ i σ' G' G2, Ex G' G2 → I i σ' G' → I i σ' G2) : St (tFor (iZip K tA) g tu) σ G (I l.length) R := fun H D e q n =>
  hsrc H e _ fun vs G1 H1 g1 hv => by
    obtain ⟨v, w, rfl, ⟨a, xs, rfl, hsa, hxs⟩, ⟨b, ys, rfl, hsb, hys⟩⟩ := hv.inv2
    have hxl : xs.length = l.length := by rw [hxs.length, List.length_map]
    have hyl : ys.length = m.length := by rw [hys.length, List.length_map]
    refine ⟨a, b, xs, ys, rfl, ex_l g1.gh hsa, ex_l g1.gh hsb, RZ.for_zipL (K := K) (a := a) (b := b) (xs := xs) (ys := ys) (by omega) (fun i σ' H' => ∃ G', Grow G1 H1 G' H' ∧ I i σ' G') ⟨G1, Grow.refl g1.gh, h0 G1 g1.gg⟩
      (fun i σ' H' ⟨G', gr, _⟩ => ⟨ex_l (gr.gg.trans gr.gh) hsa, ex_l (gr.gg.trans gr.gh) hsb⟩) (fun i x y T σ' H' hix hiy ⟨G', gr, hIi⟩ hT => ?_) (fun σ' H' ⟨G', gr, hIi⟩ => ?_)⟩
    · obtain ⟨r, hr, hrx⟩ := hxs.get' hix
      rw [List.getElem?_map] at hr
      obtain ⟨a', ha', rfl⟩ := Option.map_eq_some_iff.mp hr
      obtain ⟨r2, hr2, hry⟩ := hys.get' hiy
      rw [List.getElem?_map] at hr2
      obtain ⟨b', hb', rfl⟩ := Option.map_eq_some_iff.mp hr2
      have gT := gr.laid (o := .tup [x, y]) hT
      obtain ⟨σ2, tg, hst⟩ := hs i a' b' x y T σ' (upd G' T (.tup [x, y])) ha' hb' (g1.gg.trans gT.gg) ((f a').mono gT.gg hrx) ((f' b').mono gT.gg hry) (st_of upd_same) (hI i σ' G' _ (Ex.new (fresh_back gr.gh hT)) hIi)
      exact tg _ gT.gh _ (hst _ _ gT.gh (fun v G2 H2 g2 hv => q v G2 H2 ((g1.trans gT).trans g2) hv) fun σ3 G3 H3 g3 hn => ⟨G3, gT.trans g3, hn⟩)
    · rw [hxl] at hIi
      exact n σ' G' H' (g1.trans gr) hIi
theorem set_self {i : Nat} : ∃ y : Option V, σ = σ.set i y := by
  by_cases h : i < σ.length
  · exact ⟨σ[i], by rw [List.set_getElem_self]⟩
  · exact ⟨none, by rw [List.set_eq_of_length_le (by omega)]⟩
theorem set2_self {i j : Nat} : ∃ y z : Option V, σ = (σ.set i y).set j z := by
  obtain ⟨y, hy⟩ := set_self (σ := σ) (i := i)
  obtain ⟨z, hz⟩ := set_self (σ := σ) (i := j)
  exact ⟨y, z, by rw [← hy]; exact hz⟩
/-- a loop that only searches: for x in l: if c: return .. -/
theorem st_find {α : Type} {j : Nat} (l : List α) (f : α → Rp) (c : α → Bool) (hsrc : EvR tl σ G (dL K f l))
    (hs : ∀ a x y G', a ∈ l → Ex G G' → (f a).p G' x → ∃ b, EvT t ((σ.set j y).set j (some x)) G' b ∧ b = c a ∧ (c a = true → EvR te ((σ.set j y).set j (some x)) G' R)) :
    St (tFor (iList K tl) (gName j) (tIfS t (tRet te) tNext)) σ G (fun σ2 _ => (∃ y, σ2 = σ.set j y) ∧ ∀ a ∈ l, c a = false) R := by
  refine St.to (st_for l f (fun i σ' _ => (∃ y, σ' = σ.set j y) ∧ ∀ a ∈ l.take i, c a = false) hsrc (fun _ _ => ⟨set_self, fun a h => by simp at h⟩) fun i a x σ' G' hi e hx ⟨⟨y, es⟩, hall⟩ => ?_) fun σ2 G2 _ ⟨h1, h2⟩ => ⟨h1, by rw [List.take_length] at h2; exact h2⟩
  subst es
  obtain ⟨b, ht, hb, hr⟩ := hs a x y G' (List.mem_of_getElem? hi) e hx
  refine ⟨_, tg_name, st_if ht (fun q => st_ret (hr (by rw [← hb]; exact q))) fun q => st_next ⟨⟨some x, List.set_set ..⟩, fun a' h => ?_⟩⟩
  rw [take_succ hi] at h
  rcases List.mem_append.mp h with h | h
  · exact hall a' h
  · rw [List.mem_singleton.mp h, ← hb]
    exact q
end

/-! ### a list that is built at p -/
def StB (ts : TS) (σ : L2.St) (G : Hp) (p : Addr) (xs : List V) (N : L2.St → Hp → List V → Prop) : Prop :=
  ∀ (H : Hp) (D : Ends), Ex G H → G p = none → H p = some (.lst xs) → (∀ σ2 G2 H2 ys, GrowP p G H G2 H2 → H2 p = some (.lst ys) → N σ2 G2 ys → D.nx σ2 H2) → ts D σ H
section
variable {K : PySem.W.Frag} {σ : L2.St} {G : Hp} {ta tb te tx tl : TE} {t u : TT} {x y z v : V} {R S : Rp} {Rs : List Rp} {N M : L2.St → Hp → List V → Prop} {ts tu tw : TS} {g : TG} {p : Addr} {xs : List V}
theorem StB.to (h : StB ts σ G p xs M) (i : ∀ σ2 G2 ys, Ex G G2 → M σ2 G2 ys → N σ2 G2 ys) : StB ts σ G p xs N := fun H D e hp hx k => h H D e hp hx fun σ2 G2 H2 ys g hy m => k σ2 G2 H2 ys g hy (i σ2 G2 ys g.gg m)
theorem sb_seq (h : StB ts σ G p xs M) (k : ∀ σ2 G2 ys, Ex G G2 → M σ2 G2 ys → StB tu σ2 G2 p ys N) : StB (tSeq ts tu) σ G p xs N := fun H D e hp hx n =>
  h H { D with nx := tu D } e hp hx fun σ2 G2 H2 ys g hy m => k σ2 G2 ys g.gg m H2 D g.gh g.gn hy fun σ3 G3 H3 zs g3 hz hn => n σ3 G3 H3 zs (g.trans g3) hz hn
theorem sb_next (h : N σ G xs) : StB tNext σ G p xs N := fun H D e hp hx n => n σ G H xs (GrowP.start e hp) hx h
theorem some_ne {H : Hp} {p : Addr} {o : HO} (h : H p = some o) : H p ≠ none := by
  rw [h]
  exact fun z => nomatch z
theorem sb_if {b : Bool} (h : EvT t σ G b) (h1 : b = true → StB tu σ G p xs N) (h2 : b = false → StB tw σ G p xs N) : StB (tIfS t tu tw) σ G p xs N := fun H D e hp hx n => h H e _ fun H1 e1 => by
  have g1 := (GrowP.start e hp).more e1
  cases b with
  | true =>
    show tu D σ H1
    exact h1 rfl H1 D g1.gh hp (e1 p _ hx) fun σ2 G2 H2 ys g hy hn => n σ2 G2 H2 ys (g1.trans g) hy hn
  | false =>
    show tw D σ H1
    exact h2 rfl H1 D g1.gh hp (e1 p _ hx) fun σ2 G2 H2 ys g hy hn => n σ2 G2 H2 ys (g1.trans g) hy hn
/-- x.append(e) -/
theorem sb_app {i : Nat} (hi : σ[i]? = some (some (.ref p))) (h : EvR te σ G R) (hl : xs.length < 16000000) (k : ∀ v G2, Ex G G2 → R.p G2 v → N σ G2 (xs ++ [v])) : StB (tDrop (tBM K "list" rAppend (tVar i) (tCons te tNil))) σ G p xs N := fun H D e hp hx n =>
  ⟨.ref p, hi, Or.inl ⟨rfl, xs, sq_of hx⟩, h H e _ fun v G2 H2 g hv => ⟨p, xs, v, rfl, rfl, g.hh p _ hx, Nat.lt_of_lt_of_le hl (by decide), n σ G2 _ (xs ++ [v]) ((GrowP.start e hp).step (some_ne hx) g).wr upd_same (k v G2 g.gg hv)⟩⟩
/-- x.extend(e) -/
theorem sb_ext {i : Nat} (hi : σ[i]? = some (some (.ref p))) (h : EvR te σ G (dM Rs)) (hl : xs.length + Rs.length ≤ 16000000) (k : ∀ vs G2, Ex G G2 → All2 G2 Rs vs → N σ G2 (xs ++ vs)) : StB (tDrop (tBM K "list" rExtend (tVar i) (tCons te tNil))) σ G p xs N := fun H D e hp hx n =>
  ⟨.ref p, hi, Or.inl ⟨rfl, xs, sq_of hx⟩, h H e _ fun v G2 H2 g ⟨b, ys, ev, hb, hy⟩ => ⟨p, b, xs, ys, rfl, by rw [ev], g.hh p _ hx, g.gh b _ hb, by
    rw [hy.length]
    exact Nat.le_trans hl (by decide), n σ G2 _ (xs ++ ys) ((GrowP.start e hp).step (some_ne hx) g).wr upd_same (k ys G2 g.gg hy)⟩⟩
theorem sb_asgR {i : Nat} (h : EvR te σ G S) (k : ∀ x G2, Ex G G2 → S.p G2 x → StB tu (σ.set i (some x)) G2 p xs N) : StB (tSeq (tAsg te (gName i)) tu) σ G p xs N := fun H D e hp hx n =>
  h H e _ fun x G2 H2 g hs => by
    have g2 := (GrowP.start e hp).step (some_ne hx) g
    exact k x G2 g.gg hs H2 D g2.gh g2.gn (g.hh p _ hx) fun σ3 G3 H3 ys g3 hy hn => n σ3 G3 H3 ys (g2.trans g3) hy hn
/-- a value that is read with the list at hand -/
theorem sb_asgV {i : Nat} (h : Ev te σ (upd G p (.lst xs)) v) (k : StB tu (σ.set i (some v)) G p xs N) : StB (tSeq (tAsg te (gName i)) tu) σ G p xs N := fun H D e hp hx n =>
  h H (fun c o q => by
    by_cases hc : c = p
    · subst hc
      rw [upd_same] at q
      rw [← q]
      exact hx
    · rw [upd_ne hc] at q
      exact e c o q) _ fun H1 e1 => by
    have g1 := (GrowP.start e hp).more e1
    exact k H1 D g1.gh hp (e1 p _ hx) fun σ2 G2 H2 ys g hy hn => n σ2 G2 H2 ys (g1.trans g) hy hn
theorem sb_asg2 {i j : Nat} {R1 R2 : Rp} (h : EvR te σ G (dTp K [R1, R2])) (k : ∀ x y G2, Ex G G2 → R1.p G2 x → R2.p G2 y → StB tu ((σ.set i (some x)).set j (some y)) G2 p xs N) :
    StB (tSeq (tAsg te (gTup K 2 (gCons (gName i) (gCons (gName j) gNil)))) tu) σ G p xs N := fun H D e hp hx n =>
  h H e _ fun v G2 H2 g hv => by
    obtain ⟨a, x, y, ev, hs, hrx, hry⟩ := tp_two hv
    have g2 := (GrowP.start e hp).step (some_ne hx) g
    exact tg_two (i := i) (j := j) ev hs H2 g.gh _ (k x y G2 g.gg hrx hry H2 D g2.gh g2.gn (g.hh p _ hx) fun σ3 G3 H3 ys g3 hy hn => n σ3 G3 H3 ys (g2.trans g3) hy hn)
theorem sb_for {α : Type} (l : List α) (f : α → Rp) (I : Nat → L2.St → Hp → List V → Prop) (hsrc : EvR tl σ G (dL K f l)) (h0 : ∀ G1, Ex G G1 → I 0 σ G1 xs)
    (hs : ∀ i a x σ' G' ys, l[i]? = some a → Ex G G' → (f a).p G' x → I i σ' G' ys → ∃ σ2, TgOk g σ' x G' σ2 ∧ StB tu σ2 G' p ys (I (i + 1))) : StB (tFor (iList K tl) g tu) σ G p xs (I l.length) := fun H D e hp hxp n =>
  hsrc H e _ fun v G1 H1 g1 ⟨a, vs, ev, hsq, hx⟩ => by
    have hxl : vs.length = l.length := by rw [hx.length, List.length_map]
    have gp := (GrowP.start e hp).step (some_ne hxp) g1
    refine ⟨a, ev, ⟨vs, ex_l g1.gh hsq⟩, for_list (K := K) (a := a) (xs := vs) (fun i σ' H' => ∃ G' ys, GrowP p G1 H1 G' H' ∧ H' p = some (.lst ys) ∧ I i σ' G' ys) ⟨G1, xs, GrowP.start gp.gh gp.gn, g1.hh p _ hxp, h0 G1 g1.gg⟩
      (fun i σ' H' _ ⟨G', ys, gr, _⟩ => ex_l (gr.gg.trans gr.gh) hsq) (fun i x σ' H' hi ⟨G', ys, gr, hy, hI⟩ => ?_) (fun σ' H' ⟨G', ys, gr, hy, hI⟩ => ?_)⟩
    · obtain ⟨r, hr, hrx⟩ := hx.get' hi
      rw [List.getElem?_map] at hr
      obtain ⟨a', ha', rfl⟩ := Option.map_eq_some_iff.mp hr
      obtain ⟨σ2, tg, hst⟩ := hs i a' x σ' G' ys ha' (g1.gg.trans gr.gg) ((f a').mono gr.gg hrx) hI
      exact tg H' gr.gh _ (hst H' _ gr.gh gr.gn hy fun σ3 G3 H3 zs g3 hz hn => ⟨G3, zs, gr.trans g3, hz, hn⟩)
    · rw [hxl] at hI
      exact n σ' G' H' ys (gp.trans gr) hy hI
theorem sb_forR1 {tA : TA} (m : Nat) (I : Nat → L2.St → Hp → List V → Prop) (hsrc : EvA tA σ G [.int (m : Int)]) (hm : m ≤ 1000000) (h0 : I 0 σ G xs)
    (hs : ∀ i σ' G' ys, i < m → Ex G G' → I i σ' G' ys → ∃ σ2, TgOk g σ' (.int (i : Int)) G' σ2 ∧ StB tu σ2 G' p ys (I (i + 1))) : StB (tFor (iRng1 tA) g tu) σ G p xs (I m) := fun H D e hp hxp n =>
  hsrc H e _ fun H1 e1 => by
    refine ⟨(m : Int), rfl, by omega, by omega, ?_⟩
    rw [Int.toNat_natCast]
    have gp := (GrowP.start e hp).more e1
    refine for_range (lo := 0) (n := m) (fun i σ' H' => ∃ G' ys, GrowP p G H1 G' H' ∧ H' p = some (.lst ys) ∧ I i σ' G' ys) ⟨G, xs, GrowP.start gp.gh hp, e1 p _ hxp, h0⟩ (fun i σ' H' hi ⟨G', ys, gr, hy, hI⟩ => ?_) (fun σ' H' ⟨G', ys, gr, hy, hI⟩ => n σ' G' H' ys (gp.trans gr) hy hI)
    have e0 : (0 : Int) + (i : Int) = (i : Int) := Int.zero_add _
    obtain ⟨σ2, tg, hst⟩ := hs i σ' G' ys hi gr.gg hI
    rw [e0]
    exact tg H' gr.gh _ (hst H' _ gr.gh gr.gn hy fun σ3 G3 H3 zs g3 hz hn => ⟨G3, zs, gr.trans g3, hz, hn⟩)
theorem sb_forR2 {tA : TA} (lo m : Nat) (hi : Int) (em : (hi - (lo : Int)).toNat = m) (I : Nat → L2.St → Hp → List V → Prop) (hsrc : EvA tA σ G [.int (lo : Int), .int hi]) (hm : lo ≤ 1000000 ∧ -1000000 ≤ hi ∧ hi ≤ 1000000) (h0 : I 0 σ G xs)
    (hs : ∀ i σ' G' ys, i < m → Ex G G' → I i σ' G' ys → ∃ σ2, TgOk g σ' (.int ((lo + i : Nat) : Int)) G' σ2 ∧ StB tu σ2 G' p ys (I (i + 1))) : StB (tFor (iRng2 tA) g tu) σ G p xs (I m) := fun H D e hp hxp n =>
  hsrc H e _ fun H1 e1 => by
    refine ⟨(lo : Int), hi, rfl, ⟨by omega, by omega, by omega, by omega⟩, ?_⟩
    rw [em]
    have gp := (GrowP.start e hp).more e1
    refine for_range (lo := (lo : Int)) (n := m) (fun i σ' H' => ∃ G' ys, GrowP p G H1 G' H' ∧ H' p = some (.lst ys) ∧ I i σ' G' ys) ⟨G, xs, GrowP.start gp.gh hp, e1 p _ hxp, h0⟩ (fun i σ' H' hi ⟨G', ys, gr, hy, hI⟩ => ?_) (fun σ' H' ⟨G', ys, gr, hy, hI⟩ => n σ' G' H' ys (gp.trans gr) hy hI)
    have e0 : (lo : Int) + (i : Int) = ((lo + i : Nat) : Int) := by omega
    obtain ⟨σ2, tg, hst⟩ := hs i σ' G' ys hi gr.gg hI
    rw [e0]
    exact tg H' gr.gh _ (hst H' _ gr.gh gr.gn hy fun σ3 G3 H3 zs g3 hz hn => ⟨G3, zs, gr.trans g3, hz, hn⟩)
/-- downward: range(hi, 0, -1) -/
theorem sb_forD {tA : TA} (m : Nat) (I : Nat → L2.St → Hp → List V → Prop) (hsrc : EvA tA σ G [.int (m : Int), .int 0, .int (-1)]) (hm : m ≤ 1000000) (h0 : I 0 σ G xs)
    (hs : ∀ i σ' G' ys, i < m → Ex G G' → I i σ' G' ys → ∃ σ2, TgOk g σ' (.int ((m - i : Nat) : Int)) G' σ2 ∧ StB tu σ2 G' p ys (I (i + 1))) : StB (tFor (iRng3 tA) g tu) σ G p xs (I m) := fun H D e hp hxp n =>
  hsrc H e _ fun H1 e1 => by
    refine ⟨(m : Int), 0, -1, m, rfl, ?_, ?_⟩
    · have q := RgC.neg (i := (m : Int)) (j := 0) (by omega) (by omega) (by omega) (by omega)
      rw [Int.sub_zero, Int.toNat_natCast] at q
      exact q
    have gp := (GrowP.start e hp).more e1
    refine for_rangeC (lo := (m : Int)) (c := -1) (n := m) (fun i σ' H' => ∃ G' ys, GrowP p G H1 G' H' ∧ H' p = some (.lst ys) ∧ I i σ' G' ys) ⟨G, xs, GrowP.start gp.gh hp, e1 p _ hxp, h0⟩ (fun i σ' H' hi ⟨G', ys, gr, hy, hI⟩ => ?_) (fun σ' H' ⟨G', ys, gr, hy, hI⟩ => n σ' G' H' ys (gp.trans gr) hy hI)
    have e0 : (m : Int) + (i : Int) * (-1) = ((m - i : Nat) : Int) := by omega
    obtain ⟨σ2, tg, hst⟩ := hs i σ' G' ys hi gr.gg hI
    rw [e0]
    exact tg H' gr.gh _ (hst H' _ gr.gh gr.gn hy fun σ3 G3 H3 zs g3 hz hn => ⟨G3, zs, gr.trans g3, hz, hn⟩)
theorem sb_forZ {α β : Type} {tA : TA} (l : List α) (m : List β) (f : α → Rp) (f' : β → Rp) (I : Nat → L2.St → Hp → List V → Prop) (hlen : l.length = m.length) (hsrc : EvAR tA σ G [dL K f l, dL K f' m]) (h0 : ∀ G1, Ex G G1 → I 0 σ G1 xs)
    (hI : ∀ i σ' G' G2 ys, Ex G' G2 → I i σ' G' ys → I i σ' G2 ys)
    (hs : ∀ i a b x y T σ' G' ys, l[i]? = some a → m[i]? = some b → Ex G G' → (f a).p G' x → (f' b).p G' y → SqT K G' T [x, y] → I i σ' G' ys → ∃ σ2, TgOk g σ' (.ref T) G' σ2 ∧ StB tu σ2 G' p ys (I (i + 1))) :
    StB (tFor (iZip K tA) g tu) σ G p xs (I l.length) := fun H D e hp hxp n =>
  hsrc H e _ fun vs G1 H1 g1 hv => by
    obtain ⟨v, w, rfl, ⟨a, us, rfl, hsa, hxs⟩, ⟨b, ws, rfl, hsb, hys⟩⟩ := hv.inv2
    have hxl : us.length = l.length := by rw [hxs.length, List.length_map]
    have hyl : ws.length = m.length := by rw [hys.length, List.length_map]
    have gp := (GrowP.start e hp).step (some_ne hxp) g1
    refine ⟨a, b, us, ws, rfl, ex_l g1.gh hsa, ex_l g1.gh hsb, RZ.for_zipL (K := K) (a := a) (b := b) (xs := us) (ys := ws) (by omega) (fun i σ' H' => ∃ G' ys, GrowP p G1 H1 G' H' ∧ H' p = some (.lst ys) ∧ I i σ' G' ys) ⟨G1, xs, GrowP.start gp.gh gp.gn, g1.hh p _ hxp, h0 G1 g1.gg⟩
      (fun i σ' H' ⟨G', ys, gr, _⟩ => ⟨ex_l (gr.gg.trans gr.gh) hsa, ex_l (gr.gg.trans gr.gh) hsb⟩) (fun i x y T σ' H' hix hiy ⟨G', ys, gr, hy, hIi⟩ hT => ?_) (fun σ' H' ⟨G', ys, gr, hy, hIi⟩ => ?_)⟩
    · obtain ⟨r, hr, hrx⟩ := hxs.get' hix
      rw [List.getElem?_map] at hr
      obtain ⟨a', ha', rfl⟩ := Option.map_eq_some_iff.mp hr
      obtain ⟨r2, hr2, hry⟩ := hys.get' hiy
      rw [List.getElem?_map] at hr2
      obtain ⟨b', hb', rfl⟩ := Option.map_eq_some_iff.mp hr2
      have gT := gr.step (some_ne hy) (Grow.new (o := .tup [x, y]) gr.gh hT)
      have eT : Ex G' (upd G' T (.tup [x, y])) := Ex.new (fresh_back gr.gh hT)
      obtain ⟨σ2, tg, hst⟩ := hs i a' b' x y T σ' (upd G' T (.tup [x, y])) ys ha' hb' (g1.gg.trans gT.gg) ((f a').mono gT.gg hrx) ((f' b').mono gT.gg hry) (st_of upd_same) (hI i σ' G' _ ys eT hIi)
      have hyT : (upd H' T (.tup [x, y])) p = some (.lst ys) := by
        rw [upd_ne (ne_of_none hy hT)]
        exact hy
      exact tg _ gT.gh _ (hst _ _ gT.gh gT.gn hyT fun σ3 G3 H3 zs g3 hz hn => ⟨G3, zs, gT.trans g3, hz, hn⟩)
    · rw [hxl] at hIi
      exact n σ' G' H' ys (gp.trans gr) hy hIi
/-- x = [..]; a loop that fills it; the rest -/
theorem q_build {i : Nat} {tA : TA} {N' : L2.St → Hp → Prop} (NB : Addr → L2.St → Hp → List V → Prop) (hinit : EvAR tA σ G Rs) (hl : Rs.length ≤ 100000)
    (hloop : ∀ p xs0 G1, Ex G G1 → All2 G1 Rs xs0 → StB ts (σ.set i (some (.ref p))) G1 p xs0 (NB p))
    (hrest : ∀ p σ2 G2 ys, Ex G G2 → G2 p = none → NB p σ2 G2 ys → St tu σ2 (upd G2 p (.lst ys)) N' R) : St (tSeq (tAsg (tLst tA) (gName i)) (tSeq ts tu)) σ G N' R := fun H D e q n =>
  hinit H e _ fun vs G1 H1 g hv => ⟨sz_of (by rw [hv.length]; exact hl), fun p hp => by
    have hG : G1 p = none := fresh_back g.gh hp
    refine hloop p vs G1 g.gg hv (upd H1 p (.lst vs)) { D with nx := tu D } (ex_wr g.gh hG) hG upd_same fun σ2 G2 H2 ys gp hy hN => ?_
    have gf := g.trans (gp.fin hp hy)
    exact hrest p σ2 G2 ys (g.gg.trans gp.gg) gp.gn hN H2 D gf.gh (fun v G3 H3 g3 hr => q v G3 H3 (gf.trans g3) hr) fun σ3 G3 H3 g3 hn => n σ3 G3 H3 (gf.trans g3) hn⟩
end
end Sk
/-! part Mi -/
/-! The mirror: each def of the program as a plain total function. Moves, readings, faults: Int as in the program; positions, ticks: Nat. -/
namespace Mi
structure Pr where
  size : Nat
  moves : List Int
structure Se where
  prop : Nat
  error : Nat
  first : Nat
  readings : List Int
structure Ro where
  most : Nat
  begun : Bool
  now : Nat
  props : List Pr
  sensors : List Se
def Ro.fresh : Ro := ⟨0, false, 0, [], []⟩
/-- least of a list, 0 of none -/
def leastN : List Nat → Nat
  | [] => 0
  | a :: r => r.foldl min a

/-! ### room -/
def sensorsOf (r : Ro) (p : Nat) : List Se := r.sensors.filter fun x => x.prop == p
def placeOf (r : Ro) (i : Nat) : Nat := ((List.range i).filter fun k => (r.sensors.getD k ⟨0, 0, 0, []⟩).prop == (r.sensors.getD i ⟨0, 0, 0, []⟩).prop).length

/-! ### courses -/
def goes (m : Int) (a b : Nat) : Bool := if m = -1 then a == b else decide (m = -2) || decide (m = (b : Int))
def comes (bs : List Nat) (m : Int) (p : Nat) : Bool := if m = -1 then bs.contains p else if m = -2 then decide (0 < bs.length) else decide (0 < bs.length) && decide ((p : Int) = m)
def leads (p : Nat) (m : Int) (as : List Nat) : Bool := if m = -1 then as.contains p else if m = -2 then decide (0 < as.length) else as.any fun a => decide ((a : Int) = m)
def fwd (ms : List Int) (al : List (List Nat)) : Nat → List Nat
  | 0 => al.getD 0 []
  | t + 1 => (al.getD (t + 1) []).filter (comes (fwd ms al t) (ms.getD (t + 1) 0))
def forward (ms : List Int) (al : List (List Nat)) : List (List Nat) := (List.range ms.length).map (fwd ms al)
def hasCourse (ms : List Int) (al : List (List Nat)) : Bool := decide (0 < (fwd ms al (ms.length - 1)).length)
/-- the row k ticks ahead of the last -/
def bwd (ms : List Int) (al : List (List Nat)) : Nat → List Nat
  | 0 => fwd ms al (ms.length - 1)
  | k + 1 => (fwd ms al (ms.length - 2 - k)).filter fun p => leads p (ms.getD (ms.length - 1 - k) 0) (bwd ms al k)
def seats (ms : List Int) (al : List (List Nat)) : List (List Nat) := ((List.range ms.length).map (bwd ms al)).reverse
def lst (ms : List Int) (al : List (List Nat)) : Nat → Nat
  | 0 => leastN (fwd ms al (ms.length - 1))
  | k + 1 => leastN ((fwd ms al (ms.length - 2 - k)).filter fun p => goes (ms.getD (ms.length - 1 - k) 0) p (lst ms al k))
def leastCourse (ms : List Int) (al : List (List Nat)) : List Nat := ((List.range ms.length).map (lst ms al)).reverse
def isCourse (ms : List Int) (size : Nat) (c : List Nat) : Bool :=
  decide (c.length = ms.length) && (c.all fun p => decide (p < size)) && (List.range (ms.length - 1)).all fun i => goes (ms.getD (i + 1) 0) (c.getD i 0) (c.getD (i + 1) 0)
def within (c : List Nat) (al : List (List Nat)) : Bool := (c.zip al).all fun x => x.2.contains x.1

/-! ### sights -/
def isFault (n : Int) : Bool := decide (0 ≤ n ∧ n ≤ 3) || decide (100 ≤ n ∧ n ≤ 124)
def readingsFrom (x : Se) (t : Nat) : List Int := (x.readings.drop t).filter fun n => !decide (n = -1)
def canStick (x : Se) (t : Nat) : Bool := (readingsFrom x t).all fun n => decide (n = (readingsFrom x t).getD 0 0)
def stuckTicks (x : Se) (now : Nat) : List Nat := ((List.range (now + 1 - x.first)).map fun i => x.first + i).filter (canStick x)
def options (x : Se) (now : Nat) : List Int := match stuckTicks x now with
  | [] => [0, 1, 2, 3]
  | t :: _ => [0, 100 + (t : Int), 1, 2, 3]
def mayHave (x : Se) (f : Int) (now : Nat) : Bool := if f < 100 then true else decide (x.first ≤ (f - 100).toNat ∧ (f - 100).toNat ≤ now) && canStick x (f - 100).toNat
def readingAbout (x : Se) (f : Int) (t now : Nat) : Int :=
  if t < x.first then -1
  else if 100 ≤ f then (if (t : Int) < f - 100 then x.readings.getD t (-1) else -1)
  else if (now : Int) < t + f then -1
  else x.readings.getD (t + f.toNat) (-1)
def agrees (x : Se) (n : Int) (p : Nat) : Bool := decide (n = -1) || decide ((n - (p : Int)).natAbs ≤ x.error)
def sight (x : Se) (f : Int) (size now : Nat) : List (List Nat) := (List.range (now + 1)).map fun t => (List.range size).filter (agrees x (readingAbout x f t now))
def whole (size now : Nat) : List (List Nat) := (List.range (now + 1)).map fun _ => List.range size
def overlap (a b : List (List Nat)) : List (List Nat) := (a.zip b).map fun x => x.1.filter fun p => x.2.contains p

/-! ### ways -/
abbrev Way := List Int × List (List Nat)
def countFaults (fs : List Int) : Nat := (fs.filter fun f => !decide (f = 0)).length
def widened (ps : List Way) (x : Se) (size now most : Nat) : List Way :=
  ps.flatMap fun w => ((options x now).filter fun f => decide (countFaults (w.1 ++ [f]) ≤ most)).map fun f => (w.1 ++ [f], overlap w.2 (sight x f size now))
def prAt (r : Ro) (p : Nat) : Pr := r.props.getD p ⟨0, []⟩
def seAt (r : Ro) (i : Nat) : Se := r.sensors.getD i ⟨0, 0, 0, []⟩
def possible (r : Ro) (p : Nat) : List Way :=
  ((sensorsOf r p).foldl (fun ps x => widened ps x (prAt r p).size r.now r.most) [([], whole (prAt r p).size r.now)]).filter fun w => hasCourse (prAt r p).moves w.2
def allPossible (r : Ro) : List (List Way) := (List.range r.props.length).map (possible r)
def fewestOf (ws : List Way) : Int := if ws.length = 0 then -1 else (leastN (ws.map fun w => countFaults w.1) : Int)
def fewestEach (t : List (List Way)) : List Int := t.map fewestOf
def something (few : List Int) (most : Nat) : Bool := !few.contains (-1) && decide (few.sum ≤ (most : Int))
def canBe (r : Ro) : Bool := something (fewestEach (allPossible r)) r.most
def atMost (ws : List Way) (limit : Int) : List Way := ws.filter fun w => decide ((countFaults w.1 : Int) ≤ limit)
def allLeft (r : Ro) : List (List Way) :=
  let t := allPossible r
  let few := fewestEach t
  if something few r.most then (t.zip few).map fun x => atMost x.1 ((r.most : Int) - (few.sum - x.2)) else t.map fun _ => []
def leftOf (r : Ro) (p : Nat) : List Way := (allLeft r).getD p []

/-! ### acts: the state behind, the answer -/
def isProp (r : Ro) (p : Int) : Bool := decide (0 ≤ p) && decide (p < (r.props.length : Int))
def isSensor (r : Ro) (i : Int) : Bool := decide (0 ≤ i) && decide (i < (r.sensors.length : Int))
def bit (b : Bool) : Int := if b then 1 else 0
def doBegin (r : Ro) (most : Int) : Ro × List Int := if 0 ≤ most ∧ most ≤ 2 then (⟨most.toNat, false, 0, [], []⟩, [0]) else (r, [-1])
def doProp (r : Ro) (size : Int) : Ro × List Int :=
  if ¬ (2 ≤ size ∧ size ≤ 8) then (r, [-1]) else if r.begun then (r, [-3]) else if r.props.length = 4 then (r, [-5])
  else ({ r with props := r.props ++ [⟨size.toNat, [-2]⟩] }, [0, (r.props.length : Int)])
def doSensor (r : Ro) (p e : Int) : Ro × List Int :=
  if ¬ (isProp r p = true ∧ 0 ≤ e ∧ e ≤ 3) then (r, [-1]) else if r.begun then (r, [-3]) else if r.sensors.length = 8 ∨ (sensorsOf r p.toNat).length = 4 then (r, [-5])
  else ({ r with sensors := r.sensors ++ [⟨p.toNat, e.toNat, 0, [-1]⟩] }, [0, (r.sensors.length : Int)])
def doGo (r : Ro) : Ro × List Int := if r.begun then (r, [-3]) else if r.props.length = 0 then (r, [-4]) else ({ r with begun := true }, [0])
def movesRight (r : Ro) (ms : List Int) : Bool := decide (ms.length = r.props.length) && (r.props.zip ms).all fun x => decide (-2 ≤ x.2) && decide (x.2 < (x.1.size : Int))
def readingsRight (r : Ro) (rs : List Int) : Bool := decide (rs.length = r.sensors.length) && rs.all fun n => decide (-1 ≤ n) && decide (n ≤ 1000)
def stepped (r : Ro) (ms rs : List Int) : Ro :=
  { r with now := r.now + 1, props := (r.props.zip ms).map fun x => { x.1 with moves := x.1.moves ++ [x.2] }, sensors := (r.sensors.zip rs).map fun x => { x.1 with readings := x.1.readings ++ [x.2] } }
def doTick (r : Ro) (ms rs : List Int) : Ro × List Int :=
  if ¬ (movesRight r ms = true ∧ readingsRight r rs = true) then (r, [-1]) else if r.begun = false then (r, [-3]) else if r.now = 24 then (r, [-5])
  else (stepped r ms rs, [0, (r.now : Int) + 1, bit (canBe (stepped r ms rs))])
def mended (r : Ro) (i : Nat) : Ro := { r with sensors := r.sensors.modify i fun x => { x with first := r.now + 1, readings := List.replicate (r.now + 1) (-1) } }
def doMend (r : Ro) (i : Int) : Ro × List Int := if isSensor r i = false then (r, [-1]) else if r.begun = false then (r, [-3]) else (mended r i.toNat, [0])
def doAllow (r : Ro) (most : Int) : Ro × List Int := if 0 ≤ most ∧ most ≤ 2 then ({ r with most := most.toNat }, [0]) else (r, [-1])

/-! ### asks -/
def toInts (l : List Nat) : List Int := l.map fun (n : Nat) => (n : Int)
def stands (rows : List (List Nat)) (p : Nat) : Bool := rows.any fun row => row.contains p
def sayWhere (r : Ro) (p t : Int) : List Int :=
  if ¬ (isProp r p = true ∧ 0 ≤ t ∧ t ≤ (r.now : Int)) then [-1] else if r.begun = false then [-3]
  else 0 :: toInts ((List.range (prAt r p.toNat).size).filter (stands ((leftOf r p.toNat).map fun w => (seats (prAt r p.toNat).moves w.2).getD t.toNat [])))
def sayFewest (r : Ro) : List Int :=
  if r.begun = false then [-3] else if something (fewestEach (allPossible r)) r.most = false then [-4]
  else 0 :: (fewestEach (allPossible r)).sum :: fewestEach (allPossible r)
def firstFew (ws : List Way) : Way := (atMost ws (fewestOf ws)).getD 0 ([], [])
def sayExplain (r : Ro) (p : Int) : List Int :=
  if isProp r p = false then [-1] else if r.begun = false then [-3] else if (leftOf r p.toNat).length = 0 then [-4]
  else 0 :: (firstFew (leftOf r p.toNat)).1 ++ toInts (leastCourse (prAt r p.toNat).moves (firstFew (leftOf r p.toNat)).2)
def explains (r : Ro) (p : Nat) (fs : List Int) (c : List Nat) : Bool :=
  decide (fs.length = (sensorsOf r p).length) && isCourse (prAt r p).moves (prAt r p).size c &&
    ((sensorsOf r p).zip fs).all fun x => mayHave x.1 x.2 r.now && within c (sight x.1 x.2 (prAt r p).size r.now)
def sayCheck (r : Ro) (p : Int) (fs c : List Int) : List Int :=
  if isProp r p = false then [-1] else if ¬ ((fs.all isFault = true) ∧ (c.all fun n => decide (0 ≤ n) && decide (n ≤ 7)) = true) then [-1] else if r.begun = false then [-3]
  else [0, bit (explains r p.toNat fs (c.map Int.toNat)), (countFaults fs : Int)]
def insertI (n : Int) : List Int → List Int
  | [] => [n]
  | x :: l => if n ≤ x then n :: x :: l else x :: insertI n l
def sortI (l : List Int) : List Int := l.foldr insertI []
def votes (r : Ro) (p : Nat) : List Int := sortI (((sensorsOf r p).map fun x => x.readings.getD r.now (-1)).filter fun n => decide (0 ≤ n))
def sayVote (r : Ro) (p : Int) : List Int :=
  if isProp r p = false then [-1] else if r.begun = false then [-3] else
    let l := votes r p.toNat
    if l.length = 0 then [-4] else let m := l.getD ((l.length - 1) / 2) 0
    [0, m, (l.length : Int), ((l.count m : Nat) : Int)]
def sayState (r : Ro) : List Int := [0, (r.props.length : Int), (r.sensors.length : Int), bit r.begun, (r.now : Int), (r.most : Int)]
def sayWays (r : Ro) (p : Int) : List Int :=
  if isProp r p = false then [-1] else if r.begun = false then [-3] else 0 :: ((leftOf r p.toNat).length : Int) :: (leftOf r p.toNat).flatMap fun w => w.1

/-! ### ahead -/
abbrev Span := Int × Int
abbrev View := List Int × List (List Nat)
def around (x : Se) (p : Nat) : Span := (if (p : Int) - (x.error : Int) > 0 then (p : Int) - (x.error : Int) else 0, (p : Int) + (x.error : Int))
def stuckReads (x : Se) (t : Nat) : List Span := match readingsFrom x t with
  | [] => [(0, 1000)]
  | n :: _ => [(n, n)]
def mayRead (x : Se) (f : Int) (been : List (List Nat)) (told : List Nat) (turn now : Nat) : List Span :=
  if 100 ≤ f then stuckReads x (f - 100).toNat
  else if (now : Int) < now + 1 + turn - f then [around x (told.getD ((turn : Int) - f).toNat 0)]
  else if (now : Int) + 1 + turn - f < (x.first : Int) then [(0, 1000)]
  else (been.getD ((now : Int) + 1 + turn - f).toNat []).map (around x)
def readsAhead (xs : List Se) (v : View) (told : List Nat) (now : Nat) : List (List Span) :=
  (List.range told.length).flatMap fun turn => (xs.zip v.1).map fun x => mayRead x.1 x.2 v.2 told turn now
def share (a b : List Span) : Bool := a.any fun x => b.any fun y => decide (x.1 ≤ y.2) && decide (y.1 ≤ x.2)
def alike (a b : List (List Span)) : Bool := (a.zip b).all fun x => share x.1 x.2
def noneAlike (as bs : List (List (List Span))) : Bool := as.all fun a => bs.all fun b => !alike a b
def viewsLeft (r : Ro) (p : Nat) : List View := (leftOf r p).map fun w => (w.1, seats (prAt r p).moves w.2)
def toldSettle (xs : List Se) (place : Nat) (vs : List View) (told : List Nat) (now : Nat) : Bool :=
  noneAlike ((vs.filter fun v => decide (v.1.getD place 0 = 0)).map fun v => readsAhead xs v told now) ((vs.filter fun v => !decide (v.1.getD place 0 = 0)).map fun v => readsAhead xs v told now)
def longerRows (rows : List (List Nat)) (size : Nat) : List (List Nat) := rows.flatMap fun row => (List.range size).map fun p => row ++ [p]
def newest (size : Nat) : Nat → List (List Nat)
  | 0 => [[]]
  | n + 1 => longerRows (newest size n) size
def candidates (size : Nat) : Nat → List (List Nat)
  | 0 => [[]]
  | n + 1 => candidates size n ++ newest size (n + 1)
def settlesNow (r : Ro) (i : Nat) (told : List Nat) : Bool := toldSettle (sensorsOf r (seAt r i).prop) (placeOf r i) (viewsLeft r (seAt r i).prop) told r.now
def firstSettling (r : Ro) (i n : Nat) : List Int := match (candidates (prAt r (seAt r i).prop).size n).find? (settlesNow r i) with
  | some l => 1 :: toInts l
  | none => [0]

/-! ### doubts -/
def placeInFive (f : Int) : Int := if f = 0 then 0 else if 100 ≤ f then 1 else f + 1
def sayBlame (r : Ro) (i : Int) : List Int :=
  if isSensor r i = false then [-1] else if r.begun = false then [-3] else
    0 :: (List.range 5).map fun (k : Nat) => bit (((leftOf r (seAt r i.toNat).prop).map fun w => placeInFive (w.1.getD (placeOf r i.toNat) 0)).contains (k : Int))
def goesOn (ms : List Int) (als : List (List (List Nat))) (rows : List (List Nat)) : Bool := als.any fun al => hasCourse ms (overlap al rows)
def saySince (r : Ro) (i : Int) : List Int :=
  if isSensor r i = false then [-1] else if r.begun = false then [-3] else
    let x := seAt r i.toNat
    0 :: toInts ((stuckTicks x r.now).filter fun t => goesOn (prAt r x.prop).moves (((leftOf r x.prop).filter fun w => decide (100 ≤ w.1.getD (placeOf r i.toNat) 0)).map fun w => w.2) (sight x (100 + (t : Int)) (prAt r x.prop).size r.now))
def neverFine (r : Ro) (t : List (List Way)) (i : Nat) : Bool := (t.getD (seAt r i).prop []).all fun w => !decide (w.1.getD (placeOf r i) 0 = 0)
def saySure (r : Ro) : List Int :=
  if r.begun = false then [-3] else if canBe r = false then [-4] else 0 :: toInts ((List.range r.sensors.length).filter (neverFine r (allLeft r)))
def saySettle (r : Ro) (i n : Int) : List Int :=
  if ¬ (isSensor r i = true ∧ 0 ≤ n ∧ n ≤ 2) then [-1] else if r.begun = false then [-3] else 0 :: firstSettling r i.toNat n.toNat
def toldRight (r : Ro) (i : Nat) (told : List Int) : Bool := decide (told.length ≤ 6) && told.all fun n => decide (0 ≤ n) && decide (n < ((prAt r (seAt r i).prop).size : Int))
def saySettles (r : Ro) (i : Int) (told : List Int) : List Int :=
  if ¬ (isSensor r i = true ∧ toldRight r i.toNat told = true) then [-1] else if r.begun = false then [-3] else [0, bit (settlesNow r i.toNat (told.map Int.toNat))]
def sayReads (r : Ro) (i : Int) : List Int :=
  if isSensor r i = false then [-1] else if r.begun = false then [-3] else 0 :: ((seAt r i.toNat).first : Int) :: (seAt r i.toNat).readings.drop (seAt r i.toNat).first

/-! ### desk -/
def nums : List Nat := [1, 1, 2, 0, 0, 2, 1, 1, 0, 1, 1, 0, 1, 2, 1, 1, 1, 0, 1, 1]
def rws : List Nat := [0, 0, 0, 0, 2, 0, 0, 0, 0, 0, 2, 0, 0, 0, 1, 0, 0, 0, 0, 0]
/-- the answer of one call, the state behind it -/
def act (r : Ro) (c : Int) (ns : List Int) (rows : List (List Int)) : Ro × List Int :=
  let n0 := ns.getD 0 0
  let n1 := ns.getD 1 0
  let r0 := rows.getD 0 []
  let r1 := rows.getD 1 []
  if c = 0 then doBegin r n0 else if c = 1 then doProp r n0 else if c = 2 then doSensor r n0 n1 else if c = 3 then doGo r
  else if c = 4 then doTick r r0 r1 else if c = 15 then doMend r n0 else if c = 19 then doAllow r n0
  else if c = 5 then (r, sayWhere r n0 n1) else if c = 8 then (r, sayFewest r) else if c = 9 then (r, sayExplain r n0) else if c = 10 then (r, sayCheck r n0 r0 r1)
  else if c = 12 then (r, sayVote r n0) else if c = 17 then (r, sayState r) else if c = 18 then (r, sayWays r n0)
  else if c = 6 then (r, sayBlame r n0) else if c = 7 then (r, saySince r n0) else if c = 11 then (r, saySure r) else if c = 13 then (r, saySettle r n0 n1)
  else if c = 14 then (r, saySettles r n0 r0) else (r, sayReads r n0)
end Mi
/-! part Sk4 -/
namespace Sk
open PySem PySem.Spec PyProof.Rows L2 Evl

/-- the addresses of what the top has written: the classes, the two tables -/
structure Cs where
  P : Addr
  S : Addr
  R : Addr
  NUMBERS : Addr
  ROWS : Addr
def top (i : Nat) : Stmt := PySem.Challenge.pw_stickysensors_s01_answers.main.body.getD i (.Pass ⟨0, 0, 0, 0⟩)
structure Txt (K : PySem.W.Frag) (mg : Str → Option Value) (C : Cs) : Prop where
  clP : Cls K C.P
  clS : Cls K C.S
  clR : Cls K C.R
  nP_size : NoAttr K C.P "size"
  nP_moves : NoAttr K C.P "moves"
  nS_prop : NoAttr K C.S "prop"
  nS_error : NoAttr K C.S "error"
  nS_first : NoAttr K C.S "first"
  nS_readings : NoAttr K C.S "readings"
  nR_most : NoAttr K C.R "most"
  nR_begun : NoAttr K C.R "begun"
  nR_now : NoAttr K C.R "now"
  nR_props : NoAttr K C.R "props"
  nR_sensors : NoAttr K C.R "sensors"
  b_len : mg "len" = none
  b_abs : mg "abs" = none
  b_max : mg "max" = none
  b_min : mg "min" = none
  b_sum : mg "sum" = none
  b_all : mg "all" = none
  b_sorted : mg "sorted" = none
  b_range : mg "range" = none
  b_zip : mg "zip" = none
  b_list : mg "list" = none
  g_LOOSE_room : ∃ t, mg "LOOSE_room" = some (.int (-2) t)
  g_NOTHING_room : ∃ t, mg "NOTHING_room" = some (.int (-1) t)
  g_HELD : ∃ t, mg "HELD" = some (.int (-1) t)
  g_LOOSE_courses : ∃ t, mg "LOOSE_courses" = some (.int (-2) t)
  g_STUCK : ∃ t, mg "STUCK" = some (.int 100 t)
  g_LAST_sights : ∃ t, mg "LAST_sights" = some (.int 24 t)
  g_NOTHING_sights : ∃ t, mg "NOTHING_sights" = some (.int (-1) t)
  g_NONE : ∃ t, mg "NONE" = some (.int (-1) t)
  g_LAST_acts : ∃ t, mg "LAST_acts" = some (.int 24 t)
  g_PROPS : ∃ t, mg "PROPS" = some (.int 4 t)
  g_SENSORS : ∃ t, mg "SENSORS" = some (.int 8 t)
  g_SENSORS_OF_ONE : ∃ t, mg "SENSORS_OF_ONE" = some (.int 4 t)
  g_GREATEST : ∃ t, mg "GREATEST" = some (.int 1000 t)
  g_NUMBERS : mg "NUMBERS" = some (.ref C.NUMBERS)
  g_ROWS : mg "ROWS" = some (.ref C.ROWS)
  s_NUMBERS : ∀ H, SqT K H C.NUMBERS (Mi.nums.map fun (n : Nat) => V.int (n : Int))
  s_ROWS : ∀ H, SqT K H C.ROWS (Mi.rws.map fun (n : Nat) => V.int (n : Int))

section
variable (P : Program) (w : World) (K : PySem.W.Frag) (mg : Str → Option Value) (base : Heap)
/-- a def, a method, a class with its __init__, as a caller uses it -/
structure Def (k : Nat) (x : Str) (ps : List Str) (sp : Sp) : Prop where
  ex : ∃ f fd, FnOk P w K mg base CX0 k f fd ps sp ∧ mg x = some (.ref f) ∧ PySem.W.keepIn K (.ref f) = true ∧ Binds K fd ps []
structure DefM (k : Nat) (m : Str) (Ca : Addr) (ps : List Str) (sp : Sp) : Prop where
  ex : ∃ f fd, FnOk P w K mg base CX0 k f fd ps sp ∧ Meth K Ca m f ∧ Binds K fd ps []
structure DefC (k : Nat) (x : Str) (Ca : Addr) (ps : List Str) (sp : Sp) : Prop where
  ex : ∃ f fd, FnOk P w K mg base CX0 k f fd ps sp ∧ Mk K Ca f ∧ mg x = some (.ref Ca) ∧ Binds K fd ps []
end
section
variable {X : Cx} {k : Nat} {x : Str} {ps : List Str} {sp : Sp} {e o : Expr} {es : List Expr} {t : TA} {ta : TE} {p pos apos : Pos} {C : Addr} {m : Str}
theorem pe_globI {v : Int} (hg : Gl X x) (hm : ∃ t, X.mg x = some (.int v t)) (hd : (x == ("__debug__" : Str)) = false := by decide) : PE X (.Name x pos) (tC (.int v)) := by
  obtain ⟨t, h⟩ := hm
  exact pe_glob hg h ⟨t, rfl⟩ hd
theorem pc (D : Def X.prog X.w X.K X.mg X.base k x ps sp) (hr : Room k X.A) (hg : Gl X x) (ha : PA X (e :: es) t) (hdb : (x == ("__debug__" : Str)) = false := by decide)
    (he : starEach (e :: es) X.env = (false, eval e X.env) :: starEach es X.env := by rfl) (hpl : (backTo pos (starEach es X.env)).any (·.1) = false := by rfl) : PE X (.Call (.Name x p) (e :: es) [] pos) (tCall sp [] E0 t) := by
  obtain ⟨f, fd, F, hm, hk, hb⟩ := D.ex
  exact pe_call F hr hg hm hk hb .nil pass0 ha hdb he hpl
theorem pc_meth {pl : Sem Bool} (c : Cls X.K C) (D : DefM X.prog X.w X.K X.mg X.base k m C ps sp) (hr : Room k X.A) (he : PE X o ta) (ha : PA X (e :: es) t)
    (hst : starEach (e :: es) X.env = (false, eval e X.env) :: starEach es X.env := by rfl) (hpl : (backTo pos (starEach es X.env)).any (·.1) = false := by rfl)
    (ht : eval (.Call (.Attribute o m apos) (e :: es) [] pos) X.env = (do
      let ov ← eval o X.env
      standAt apos.atName
      let (f, first) ← holding [ov] (getMethod ov m pl)
      callWith pos f first (backTo pos (starEach (e :: es) X.env)) (backToKw pos (keywordEach [] X.env))) := by rfl) : PE X (.Call (.Attribute o m apos) (e :: es) [] pos) (tMeth C m sp [] E0 ta t) := by
  obtain ⟨f, fd, F, hm, hb⟩ := D.ex
  exact pe_meth he c hm F hr hb .nil pass0 ha hst hpl ht
theorem pc_meth0 {pl : Sem Bool} (c : Cls X.K C) (D : DefM X.prog X.w X.K X.mg X.base k m C ps sp) (hr : Room k X.A) (he : PE X o ta)
    (ht : eval (.Call (.Attribute o m apos) [] [] pos) X.env = (do
      let ov ← eval o X.env
      standAt apos.atName
      let (f, first) ← holding [ov] (getMethod ov m pl)
      callWith pos f first (backTo pos (starEach [] X.env)) (backToKw pos (keywordEach [] X.env))) := by rfl) : PE X (.Call (.Attribute o m apos) [] [] pos) (tMeth C m sp [] E0 ta tNil) := by
  obtain ⟨f, fd, F, hm, hb⟩ := D.ex
  exact pe_meth0 he c hm F hr hb .nil pass0 ht
theorem pc_make (D : DefC X.prog X.w X.K X.mg X.base k x C ps sp) (hr : Room (k + 1) X.A) (hg : Gl X x) (ha : PA X (e :: es) t) (hdb : (x == ("__debug__" : Str)) = false := by decide)
    (he : starEach (e :: es) X.env = (false, eval e X.env) :: starEach es X.env := by rfl) (hpl : (backTo pos (starEach es X.env)).any (·.1) = false := by rfl) : PE X (.Call (.Name x p) (e :: es) [] pos) (tMake C sp [] E0 t) := by
  obtain ⟨f, fd, F, M, hm, hb⟩ := D.ex
  exact pe_make M F hr hg hm hb .nil pass0 ha hdb he hpl
theorem pc_make0 (D : DefC X.prog X.w X.K X.mg X.base k x C ps sp) (hr : Room (k + 1) X.A) (hg : Gl X x) (hdb : (x == ("__debug__" : Str)) = false := by decide) : PE X (.Call (.Name x p) [] [] pos) (tMake C sp [] E0 tNil) := by
  obtain ⟨f, fd, F, M, hm, hb⟩ := D.ex
  exact pe_make0 M F hr hg hm hb .nil pass0 hdb
end
def rAbs : List V → Hp → VK → Prop := fun xs H Q => ∃ i, xs = [.int i] ∧ Q (.int (if i < 0 then -i else i)) H
end Sk
/-! part Rep -/
namespace Mi
/-- what holds of the room at any time -/
structure Ok (r : Ro) : Prop where
  now : r.now ≤ 24
  most : r.most ≤ 2
  np : r.props.length ≤ 4
  ns : r.sensors.length ≤ 8
  one : ∀ p, (sensorsOf r p).length ≤ 4
  pr : ∀ q ∈ r.props, 2 ≤ q.size ∧ q.size ≤ 8 ∧ q.moves.length = r.now + 1
  se : ∀ x ∈ r.sensors, x.prop < r.props.length ∧ x.error ≤ 3 ∧ x.first ≤ r.now + 1 ∧ x.readings.length = r.now + 1
/-- a sensor by itself -/
structure SeOk (x : Se) (now : Nat) : Prop where
  hn : now ≤ 24
  hf : x.first ≤ now + 1
  hl : x.readings.length = now + 1
end Mi
namespace Sk
open PySem PySem.Spec PyProof.Rows L2 Evl

/-! ### what stands for what -/
section
variable (K : PySem.W.Frag) (C : Cs)
abbrev dRow (l : List Nat) : Rp := dL K dN l
abbrev dRows (l : List (List Nat)) : Rp := dL K (dRow K) l
abbrev dInts (l : List Int) : Rp := dL K dI l
abbrev dMI (l : List Int) : Rp := dM (l.map dI)
abbrev dMN (l : List Nat) : Rp := dM (l.map dN)
abbrev dWay (w : Mi.Way) : Rp := dTp K [dMI w.1, dRows K w.2]
abbrev dWays (l : List Mi.Way) : Rp := dL K (dWay K) l
abbrev dSpan (s : Mi.Span) : Rp := dTp K [dI s.1, dI s.2]
abbrev dSpans (l : List Mi.Span) : Rp := dL K (dSpan K) l
abbrev dAhead (l : List (List Mi.Span)) : Rp := dL K (dSpans K) l
def prF (q : Mi.Pr) (ml : Addr) : List (Str × V) := [("size", .int (q.size : Int)), ("moves", .ref ml)]
def seF (x : Mi.Se) (rl : Addr) : List (Str × V) := [("prop", .int (x.prop : Int)), ("error", .int (x.error : Int)), ("first", .int (x.first : Int)), ("readings", .ref rl)]
def roF (r : Mi.Ro) (pl sl : Addr) : List (Str × V) := [("most", .int (r.most : Int)), ("begun", .bl r.begun), ("now", .int (r.now : Int)), ("props", .ref pl), ("sensors", .ref sl)]
def dPr (q : Mi.Pr) : Rp := ⟨fun G v => ∃ a dx ml, v = .ref a ∧ G a = some (.ins C.P dx (prF q ml)) ∧ (dMI q.moves).p G (.ref ml), fun e ⟨a, dx, ml, h1, h2, h3⟩ => ⟨a, dx, ml, h1, e a _ h2, Rp.mono _ e h3⟩⟩
def dSe (x : Mi.Se) : Rp := ⟨fun G v => ∃ a dx rl, v = .ref a ∧ G a = some (.ins C.S dx (seF x rl)) ∧ (dMI x.readings).p G (.ref rl), fun e ⟨a, dx, rl, h1, h2, h3⟩ => ⟨a, dx, rl, h1, e a _ h2, Rp.mono _ e h3⟩⟩
abbrev dPrs (l : List Mi.Pr) : Rp := dL K (dPr C) l
abbrev dSes (l : List Mi.Se) : Rp := dL K (dSe C) l
def dRo (r : Mi.Ro) : Rp := ⟨fun G v => ∃ a dx pl sl, v = .ref a ∧ G a = some (.ins C.R dx (roF r pl sl)) ∧ (dPrs K C r.props).p G (.ref pl) ∧ (dSes K C r.sensors).p G (.ref sl),
  fun e ⟨a, dx, pl, sl, h1, h2, h3, h4⟩ => ⟨a, dx, pl, sl, h1, e a _ h2, Rp.mono _ e h3, Rp.mono _ e h4⟩⟩
end
theorem lk_here {k : Str} {v : V} {r : List (Str × V)} : List.lookup k ((k, v) :: r) = some v := by
  have e : (k == k) = true := beq_self_eq_true k
  simp only [List.lookup, e]
theorem lk_past {k g : Str} {v : V} {r : List (Str × V)} (h : (k == g) = false) : List.lookup k ((g, v) :: r) = List.lookup k r := by
  simp only [List.lookup, h]
theorem prF_size {q : Mi.Pr} {ml : Addr} : (prF q ml).lookup ("size" : Str) = some (.int (q.size : Int)) := lk_here
theorem prF_moves {q : Mi.Pr} {ml : Addr} : (prF q ml).lookup ("moves" : Str) = some (.ref ml) := (lk_past (by decide +kernel)).trans lk_here
theorem seF_prop {x : Mi.Se} {rl : Addr} : (seF x rl).lookup ("prop" : Str) = some (.int (x.prop : Int)) := lk_here
theorem seF_error {x : Mi.Se} {rl : Addr} : (seF x rl).lookup ("error" : Str) = some (.int (x.error : Int)) := (lk_past (by decide +kernel)).trans lk_here
theorem seF_first {x : Mi.Se} {rl : Addr} : (seF x rl).lookup ("first" : Str) = some (.int (x.first : Int)) := (lk_past (by decide +kernel)).trans ((lk_past (by decide +kernel)).trans lk_here)
theorem seF_readings {x : Mi.Se} {rl : Addr} : (seF x rl).lookup ("readings" : Str) = some (.ref rl) := (lk_past (by decide +kernel)).trans ((lk_past (by decide +kernel)).trans ((lk_past (by decide +kernel)).trans lk_here))
theorem roF_most {r : Mi.Ro} {pl sl : Addr} : (roF r pl sl).lookup ("most" : Str) = some (.int (r.most : Int)) := lk_here
theorem roF_begun {r : Mi.Ro} {pl sl : Addr} : (roF r pl sl).lookup ("begun" : Str) = some (.bl r.begun) := (lk_past (by decide +kernel)).trans lk_here
theorem roF_now {r : Mi.Ro} {pl sl : Addr} : (roF r pl sl).lookup ("now" : Str) = some (.int (r.now : Int)) := (lk_past (by decide +kernel)).trans ((lk_past (by decide +kernel)).trans lk_here)
theorem roF_props {r : Mi.Ro} {pl sl : Addr} : (roF r pl sl).lookup ("props" : Str) = some (.ref pl) := (lk_past (by decide +kernel)).trans ((lk_past (by decide +kernel)).trans ((lk_past (by decide +kernel)).trans lk_here))
theorem roF_sensors {r : Mi.Ro} {pl sl : Addr} : (roF r pl sl).lookup ("sensors" : Str) = some (.ref sl) := (lk_past (by decide +kernel)).trans ((lk_past (by decide +kernel)).trans ((lk_past (by decide +kernel)).trans ((lk_past (by decide +kernel)).trans lk_here)))
section
variable {K : PySem.W.Frag} {mg : Str → Option Value} {C : Cs} {σ : L2.St} {G : Hp} {ta : TE}
theorem ev_size (T : Txt K mg C) {q : Mi.Pr} (h : EvR ta σ G (dPr C q)) : Ev (tFld K ta "size") σ G (.int (q.size : Int)) := fun H e Q k => h H e _ fun v G1 H1 g ⟨a, dx, ml, ev, ho, hm⟩ => ⟨a, C.P, dx, _, _, ev, g.gh a _ ho, T.clP, T.nP_size, prF_size, k H1 g.hh⟩
theorem er_moves (T : Txt K mg C) {q : Mi.Pr} (h : EvR ta σ G (dPr C q)) : EvR (tFld K ta "moves") σ G (dMI q.moves) := fun H e Q k => h H e _ fun v G1 H1 g ⟨a, dx, ml, ev, ho, hm⟩ => ⟨a, C.P, dx, _, _, ev, g.gh a _ ho, T.clP, T.nP_moves, prF_moves, k _ G1 H1 g hm⟩
theorem ev_prop (T : Txt K mg C) {x : Mi.Se} (h : EvR ta σ G (dSe C x)) : Ev (tFld K ta "prop") σ G (.int (x.prop : Int)) := fun H e Q k => h H e _ fun v G1 H1 g ⟨a, dx, ml, ev, ho, hm⟩ => ⟨a, C.S, dx, _, _, ev, g.gh a _ ho, T.clS, T.nS_prop, seF_prop, k H1 g.hh⟩
theorem ev_error (T : Txt K mg C) {x : Mi.Se} (h : EvR ta σ G (dSe C x)) : Ev (tFld K ta "error") σ G (.int (x.error : Int)) := fun H e Q k => h H e _ fun v G1 H1 g ⟨a, dx, ml, ev, ho, hm⟩ => ⟨a, C.S, dx, _, _, ev, g.gh a _ ho, T.clS, T.nS_error, seF_error, k H1 g.hh⟩
theorem ev_first (T : Txt K mg C) {x : Mi.Se} (h : EvR ta σ G (dSe C x)) : Ev (tFld K ta "first") σ G (.int (x.first : Int)) := fun H e Q k => h H e _ fun v G1 H1 g ⟨a, dx, ml, ev, ho, hm⟩ => ⟨a, C.S, dx, _, _, ev, g.gh a _ ho, T.clS, T.nS_first, seF_first, k H1 g.hh⟩
theorem er_readings (T : Txt K mg C) {x : Mi.Se} (h : EvR ta σ G (dSe C x)) : EvR (tFld K ta "readings") σ G (dMI x.readings) := fun H e Q k => h H e _ fun v G1 H1 g ⟨a, dx, ml, ev, ho, hm⟩ => ⟨a, C.S, dx, _, _, ev, g.gh a _ ho, T.clS, T.nS_readings, seF_readings, k _ G1 H1 g hm⟩
theorem ev_most (T : Txt K mg C) {r : Mi.Ro} (h : EvR ta σ G (dRo K C r)) : Ev (tFld K ta "most") σ G (.int (r.most : Int)) := fun H e Q k => h H e _ fun v G1 H1 g ⟨a, dx, pl, sl, ev, ho, hp, hs⟩ => ⟨a, C.R, dx, _, _, ev, g.gh a _ ho, T.clR, T.nR_most, roF_most, k H1 g.hh⟩
theorem ev_begun (T : Txt K mg C) {r : Mi.Ro} (h : EvR ta σ G (dRo K C r)) : Ev (tFld K ta "begun") σ G (.bl r.begun) := fun H e Q k => h H e _ fun v G1 H1 g ⟨a, dx, pl, sl, ev, ho, hp, hs⟩ => ⟨a, C.R, dx, _, _, ev, g.gh a _ ho, T.clR, T.nR_begun, roF_begun, k H1 g.hh⟩
theorem ev_now (T : Txt K mg C) {r : Mi.Ro} (h : EvR ta σ G (dRo K C r)) : Ev (tFld K ta "now") σ G (.int (r.now : Int)) := fun H e Q k => h H e _ fun v G1 H1 g ⟨a, dx, pl, sl, ev, ho, hp, hs⟩ => ⟨a, C.R, dx, _, _, ev, g.gh a _ ho, T.clR, T.nR_now, roF_now, k H1 g.hh⟩
theorem er_props (T : Txt K mg C) {r : Mi.Ro} (h : EvR ta σ G (dRo K C r)) : EvR (tFld K ta "props") σ G (dPrs K C r.props) := fun H e Q k => h H e _ fun v G1 H1 g ⟨a, dx, pl, sl, ev, ho, hp, hs⟩ => ⟨a, C.R, dx, _, _, ev, g.gh a _ ho, T.clR, T.nR_props, roF_props, k _ G1 H1 g hp⟩
theorem er_sensors (T : Txt K mg C) {r : Mi.Ro} (h : EvR ta σ G (dRo K C r)) : EvR (tFld K ta "sensors") σ G (dSes K C r.sensors) := fun H e Q k => h H e _ fun v G1 H1 g ⟨a, dx, pl, sl, ev, ho, hp, hs⟩ => ⟨a, C.R, dx, _, _, ev, g.gh a _ ho, T.clR, T.nR_sensors, roF_sensors, k _ G1 H1 g hs⟩
end

/-! ### promises by data -/
def mSp {α : Type} (rep : α → List Rp) (ok : α → Prop) (res : α → Rp) : Sp := pSp fun vs G R => ∃ a, All2 G (rep a) vs ∧ ok a ∧ R = res a
section
variable {α : Type} {rep : α → List Rp} {ok : α → Prop} {res : α → Rp} {σ : L2.St} {G : Hp} {tl : TA} {E : XK} {R : Rp}
theorem mSp_len {n : Nat} (hn : ∀ a, (rep a).length = n) {vs : List V} {H : Hp} {Q : VK} (h : mSp rep ok res vs H Q E) : vs.length = n := by
  obtain ⟨G, R, _, ⟨a, ha, _⟩, _⟩ := h
  rw [ha.length, hn]
theorem mSp_rd {N : List Str} {t : TS} {vs : List V} {H : Hp} {Q : VK} (hb : ∀ a vs G, All2 G (rep a) vs → ok a → St t (start N vs) G noN (res a)) (h : mSp rep ok res vs H Q E) : t { nx := fun _ H' => Q .non H', rt := Q } (start N vs) H := by
  obtain ⟨G, R, e, ⟨a, ha, hk, rfl⟩, q⟩ := h
  exact pbody (hb a vs G ha hk) e q
theorem er_callM (a : α) (h : EvAR tl σ G (rep a)) (hk : ok a) : EvR (tCall (mSp rep ok res) [] E tl) σ G (res a) := er_call h fun vs G1 _ hv => ⟨a, hv, hk, rfl⟩
theorem ev_callM {x : V} (a : α) (h : EvAR tl σ G (rep a)) (hk : ok a) (hr : res a = dV x) : Ev (tCall (mSp rep ok res) [] E tl) σ G x := ev_r (by
  rw [← hr]
  exact er_callM a h hk)
end
theorem All2.inv3 {G : Hp} {r s t : Rp} {vs : List V} (h : All2 G [r, s, t] vs) : ∃ u v w, vs = [u, v, w] ∧ r.p G u ∧ s.p G v ∧ t.p G w := by
  cases h with
  | cons h q =>
    obtain ⟨v, w, rfl, h1, h2⟩ := q.inv2
    exact ⟨_, v, w, rfl, h, h1, h2⟩
theorem All2.inv4 {G : Hp} {r s t u : Rp} {vs : List V} (h : All2 G [r, s, t, u] vs) : ∃ a b c d, vs = [a, b, c, d] ∧ r.p G a ∧ s.p G b ∧ t.p G c ∧ u.p G d := by
  cases h with
  | cons h q =>
    obtain ⟨b, c, d, rfl, h1, h2, h3⟩ := q.inv3
    exact ⟨_, b, c, d, rfl, h, h1, h2, h3⟩
theorem All2.inv5 {G : Hp} {r s t u w : Rp} {vs : List V} (h : All2 G [r, s, t, u, w] vs) : ∃ a b c d e, vs = [a, b, c, d, e] ∧ r.p G a ∧ s.p G b ∧ t.p G c ∧ u.p G d ∧ w.p G e := by
  cases h with
  | cons h q =>
    obtain ⟨b, c, d, e, rfl, h1, h2, h3, h4⟩ := q.inv4
    exact ⟨_, b, c, d, e, rfl, h, h1, h2, h3, h4⟩
theorem All2.inv6 {G : Hp} {r s t u w z : Rp} {vs : List V} (h : All2 G [r, s, t, u, w, z] vs) : ∃ a b c d e f, vs = [a, b, c, d, e, f] ∧ r.p G a ∧ s.p G b ∧ t.p G c ∧ u.p G d ∧ w.p G e ∧ z.p G f := by
  cases h with
  | cons h q =>
    obtain ⟨b, c, d, e, f, rfl, h1, h2, h3, h4, h5⟩ := q.inv5
    exact ⟨_, b, c, d, e, f, rfl, h, h1, h2, h3, h4, h5⟩
end Sk
/-! part MiOk -/
namespace Mi
/-- the moves and the allowed positions of a prop -/
structure RowsOk (ms : List Int) (al : List (List Nat)) : Prop where
  len : al.length = ms.length
  pos : 1 ≤ ms.length
  lim : ms.length ≤ 100
  row : ∀ l ∈ al, l.length ≤ 100
/-- a fault's number -/
def FaultOk (f : Int) : Prop := 0 ≤ f ∧ (f ≤ 3 ∨ 100 ≤ f)
structure WayOk (w : Way) (now : Nat) : Prop where
  faults : w.1.length ≤ 100
  len : w.2.length = now + 1
  row : ∀ l ∈ w.2, l.length ≤ 100
def WaysOk (ws : List Way) : Prop := ws.length ≤ 10000 ∧ ∀ w ∈ ws, w.1.length ≤ 100
structure ViewOk (xs : List Se) (v : View) (now : Nat) : Prop where
  se : ∀ x ∈ xs, SeOk x now
  few : xs.length ≤ 8
  len : v.1.length = xs.length
  faults : ∀ f ∈ v.1, FaultOk f
  been : v.2.length = now + 1
  row : ∀ l ∈ v.2, l.length ≤ 100
end Mi
/-! part Sp -/
namespace Sk
open PySem PySem.Spec PyProof.Rows L2 Evl
def sp_is_prop (K : PySem.W.Frag) (C : Cs) : Sp := mSp (fun ((r, p) : Mi.Ro × Int) => [dRo K C r, dI p]) (fun ((r, p) : Mi.Ro × Int) => True) (fun ((r, p) : Mi.Ro × Int) => dV (.bl (Mi.isProp r p)))
def sp_is_sensor (K : PySem.W.Frag) (C : Cs) : Sp := mSp (fun ((r, p) : Mi.Ro × Int) => [dRo K C r, dI p]) (fun ((r, p) : Mi.Ro × Int) => True) (fun ((r, p) : Mi.Ro × Int) => dV (.bl (Mi.isSensor r p)))
def sp_sensors_of (K : PySem.W.Frag) (C : Cs) : Sp := mSp (fun ((r, p) : Mi.Ro × Nat) => [dRo K C r, dN p]) (fun ((r, p) : Mi.Ro × Nat) => Mi.Ok r) (fun ((r, p) : Mi.Ro × Nat) => dM ((Mi.sensorsOf r p).map (dSe C)))
def sp_place_of (K : PySem.W.Frag) (C : Cs) : Sp := mSp (fun ((r, i) : Mi.Ro × Nat) => [dRo K C r, dN i]) (fun ((r, i) : Mi.Ro × Nat) => Mi.Ok r ∧ i < r.sensors.length) (fun ((r, i) : Mi.Ro × Nat) => dV (.int (Mi.placeOf r i : Nat)))
def sp_goes (K : PySem.W.Frag) (C : Cs) : Sp := mSp (fun ((m, a, b) : Int × Nat × Nat) => [dI m, dN a, dN b]) (fun ((m, a, b) : Int × Nat × Nat) => True) (fun ((m, a, b) : Int × Nat × Nat) => dV (.bl (Mi.goes m a b)))
def sp_comes (K : PySem.W.Frag) (C : Cs) : Sp := mSp (fun ((bs, m, p) : (List Nat) × Int × Nat) => [dRow K bs, dI m, dN p]) (fun ((bs, m, p) : (List Nat) × Int × Nat) => True) (fun ((bs, m, p) : (List Nat) × Int × Nat) => dV (.bl (Mi.comes bs m p)))
def sp_leads (K : PySem.W.Frag) (C : Cs) : Sp := mSp (fun ((p, m, bs) : Nat × Int × (List Nat)) => [dN p, dI m, dRow K bs]) (fun ((p, m, bs) : Nat × Int × (List Nat)) => True) (fun ((p, m, bs) : Nat × Int × (List Nat)) => dV (.bl (Mi.leads p m bs)))
def sp_forward (K : PySem.W.Frag) (C : Cs) : Sp := mSp (fun ((ms, al) : (List Int) × (List (List Nat))) => [dInts K ms, dRows K al]) (fun ((ms, al) : (List Int) × (List (List Nat))) => Mi.RowsOk ms al) (fun ((ms, al) : (List Int) × (List (List Nat))) => dM ((Mi.forward ms al).map (dRow K)))
def sp_exists (K : PySem.W.Frag) (C : Cs) : Sp := mSp (fun ((ms, al) : (List Int) × (List (List Nat))) => [dInts K ms, dRows K al]) (fun ((ms, al) : (List Int) × (List (List Nat))) => Mi.RowsOk ms al) (fun ((ms, al) : (List Int) × (List (List Nat))) => dV (.bl (Mi.hasCourse ms al)))
def sp_seats (K : PySem.W.Frag) (C : Cs) : Sp := mSp (fun ((ms, al) : (List Int) × (List (List Nat))) => [dInts K ms, dRows K al]) (fun ((ms, al) : (List Int) × (List (List Nat))) => Mi.RowsOk ms al) (fun ((ms, al) : (List Int) × (List (List Nat))) => dM ((Mi.seats ms al).map (dRow K)))
def sp_least_course (K : PySem.W.Frag) (C : Cs) : Sp := mSp (fun ((ms, al) : (List Int) × (List (List Nat))) => [dInts K ms, dRows K al]) (fun ((ms, al) : (List Int) × (List (List Nat))) => Mi.RowsOk ms al ∧ Mi.hasCourse ms al = true) (fun ((ms, al) : (List Int) × (List (List Nat))) => dMN (Mi.leastCourse ms al))
def sp_is_course (K : PySem.W.Frag) (C : Cs) : Sp := mSp (fun ((ms, size, c) : (List Int) × Nat × (List Nat)) => [dInts K ms, dN size, dRow K c]) (fun ((ms, size, c) : (List Int) × Nat × (List Nat)) => 1 ≤ ms.length ∧ ms.length ≤ 100) (fun ((ms, size, c) : (List Int) × Nat × (List Nat)) => dV (.bl (Mi.isCourse ms size c)))
def sp_within (K : PySem.W.Frag) (C : Cs) : Sp := mSp (fun ((c, al) : (List Nat) × (List (List Nat))) => [dRow K c, dRows K al]) (fun ((c, al) : (List Nat) × (List (List Nat))) => c.length = al.length) (fun ((c, al) : (List Nat) × (List (List Nat))) => dV (.bl (Mi.within c al)))
def sp_is_fault (K : PySem.W.Frag) (C : Cs) : Sp := mSp (fun (n : Int) => [dI n]) (fun (n : Int) => True) (fun (n : Int) => dV (.bl (Mi.isFault n)))
def sp_readings_from (K : PySem.W.Frag) (C : Cs) : Sp := mSp (fun ((x, t) : Mi.Se × Nat) => [dSe C x, dN t]) (fun ((x, t) : Mi.Se × Nat) => x.readings.length ≤ 100) (fun ((x, t) : Mi.Se × Nat) => dMI (Mi.readingsFrom x t))
def sp_can_stick (K : PySem.W.Frag) (C : Cs) : Sp := mSp (fun ((x, t) : Mi.Se × Nat) => [dSe C x, dN t]) (fun ((x, t) : Mi.Se × Nat) => x.readings.length ≤ 100) (fun ((x, t) : Mi.Se × Nat) => dV (.bl (Mi.canStick x t)))
def sp_stuck_ticks (K : PySem.W.Frag) (C : Cs) : Sp := mSp (fun ((x, now) : Mi.Se × Nat) => [dSe C x, dN now]) (fun ((x, now) : Mi.Se × Nat) => Mi.SeOk x now) (fun ((x, now) : Mi.Se × Nat) => dMN (Mi.stuckTicks x now))
def sp_options (K : PySem.W.Frag) (C : Cs) : Sp := mSp (fun ((x, now) : Mi.Se × Nat) => [dSe C x, dN now]) (fun ((x, now) : Mi.Se × Nat) => Mi.SeOk x now) (fun ((x, now) : Mi.Se × Nat) => dMI (Mi.options x now))
def sp_may_have (K : PySem.W.Frag) (C : Cs) : Sp := mSp (fun ((x, f, now) : Mi.Se × Int × Nat) => [dSe C x, dI f, dN now]) (fun ((x, f, now) : Mi.Se × Int × Nat) => Mi.SeOk x now) (fun ((x, f, now) : Mi.Se × Int × Nat) => dV (.bl (Mi.mayHave x f now)))
def sp_reading_about (K : PySem.W.Frag) (C : Cs) : Sp := mSp (fun ((x, f, t, now) : Mi.Se × Int × Nat × Nat) => [dSe C x, dI f, dN t, dN now]) (fun ((x, f, t, now) : Mi.Se × Int × Nat × Nat) => Mi.SeOk x now ∧ 0 ≤ f ∧ t ≤ now) (fun ((x, f, t, now) : Mi.Se × Int × Nat × Nat) => dV (.int (Mi.readingAbout x f t now)))
def sp_agrees (K : PySem.W.Frag) (C : Cs) : Sp := mSp (fun ((x, n, p) : Mi.Se × Int × Nat) => [dSe C x, dI n, dN p]) (fun ((x, n, p) : Mi.Se × Int × Nat) => True) (fun ((x, n, p) : Mi.Se × Int × Nat) => dV (.bl (Mi.agrees x n p)))
def sp_sight (K : PySem.W.Frag) (C : Cs) : Sp := mSp (fun ((x, f, size, now) : Mi.Se × Int × Nat × Nat) => [dSe C x, dI f, dN size, dN now]) (fun ((x, f, size, now) : Mi.Se × Int × Nat × Nat) => Mi.SeOk x now ∧ 0 ≤ f ∧ size ≤ 8) (fun ((x, f, size, now) : Mi.Se × Int × Nat × Nat) => dM ((Mi.sight x f size now).map (dRow K)))
def sp_whole (K : PySem.W.Frag) (C : Cs) : Sp := mSp (fun ((size, now) : Nat × Nat) => [dN size, dN now]) (fun ((size, now) : Nat × Nat) => size ≤ 8 ∧ now ≤ 24) (fun ((size, now) : Nat × Nat) => dM ((Mi.whole size now).map (dRow K)))
def sp_overlap (K : PySem.W.Frag) (C : Cs) : Sp := mSp (fun ((a, b) : (List (List Nat)) × (List (List Nat))) => [dRows K a, dRows K b]) (fun ((a, b) : (List (List Nat)) × (List (List Nat))) => a.length = b.length ∧ a.length ≤ 100 ∧ ∀ l ∈ a, l.length ≤ 100) (fun ((a, b) : (List (List Nat)) × (List (List Nat))) => dM ((Mi.overlap a b).map (dRow K)))
def sp_count_faults (K : PySem.W.Frag) (C : Cs) : Sp := mSp (fun (fs : (List Int)) => [dInts K fs]) (fun (fs : (List Int)) => fs.length ≤ 1000) (fun (fs : (List Int)) => dV (.int (Mi.countFaults fs : Nat)))
def sp_widened (K : PySem.W.Frag) (C : Cs) : Sp := mSp (fun ((ps, x, size, now, most) : (List Mi.Way) × Mi.Se × Nat × Nat × Nat) => [dWays K ps, dSe C x, dN size, dN now, dN most]) (fun ((ps, x, size, now, most) : (List Mi.Way) × Mi.Se × Nat × Nat × Nat) => ps.length ≤ 1000 ∧ (∀ w ∈ ps, Mi.WayOk w now) ∧ Mi.SeOk x now ∧ size ≤ 8) (fun ((ps, x, size, now, most) : (List Mi.Way) × Mi.Se × Nat × Nat × Nat) => dM ((Mi.widened ps x size now most).map (dWay K)))
def sp_possible (K : PySem.W.Frag) (C : Cs) : Sp := mSp (fun ((r, p) : Mi.Ro × Nat) => [dRo K C r, dN p]) (fun ((r, p) : Mi.Ro × Nat) => Mi.Ok r ∧ p < r.props.length) (fun ((r, p) : Mi.Ro × Nat) => dM ((Mi.possible r p).map (dWay K)))
def sp_all_possible (K : PySem.W.Frag) (C : Cs) : Sp := mSp (fun (r : Mi.Ro) => [dRo K C r]) (fun (r : Mi.Ro) => Mi.Ok r) (fun (r : Mi.Ro) => dM ((Mi.allPossible r).map (dWays K)))
def sp_fewest_of (K : PySem.W.Frag) (C : Cs) : Sp := mSp (fun (ws : (List Mi.Way)) => [dWays K ws]) (fun (ws : (List Mi.Way)) => Mi.WaysOk ws) (fun (ws : (List Mi.Way)) => dV (.int (Mi.fewestOf ws)))
def sp_fewest_each (K : PySem.W.Frag) (C : Cs) : Sp := mSp (fun (t : (List (List Mi.Way))) => [dL K (dWays K) t]) (fun (t : (List (List Mi.Way))) => t.length ≤ 100 ∧ ∀ ws ∈ t, Mi.WaysOk ws) (fun (t : (List (List Mi.Way))) => dMI (Mi.fewestEach t))
def sp_something (K : PySem.W.Frag) (C : Cs) : Sp := mSp (fun ((few, most) : (List Int) × Nat) => [dInts K few, dN most]) (fun ((few, most) : (List Int) × Nat) => True) (fun ((few, most) : (List Int) × Nat) => dV (.bl (Mi.something few most)))
def sp_can_be (K : PySem.W.Frag) (C : Cs) : Sp := mSp (fun (r : Mi.Ro) => [dRo K C r]) (fun (r : Mi.Ro) => Mi.Ok r) (fun (r : Mi.Ro) => dV (.bl (Mi.canBe r)))
def sp_at_most (K : PySem.W.Frag) (C : Cs) : Sp := mSp (fun ((ws, limit) : (List Mi.Way) × Int) => [dWays K ws, dI limit]) (fun ((ws, limit) : (List Mi.Way) × Int) => Mi.WaysOk ws) (fun ((ws, limit) : (List Mi.Way) × Int) => dM ((Mi.atMost ws limit).map (dWay K)))
def sp_all_left (K : PySem.W.Frag) (C : Cs) : Sp := mSp (fun (r : Mi.Ro) => [dRo K C r]) (fun (r : Mi.Ro) => Mi.Ok r) (fun (r : Mi.Ro) => dM ((Mi.allLeft r).map (dWays K)))
def sp_left_of (K : PySem.W.Frag) (C : Cs) : Sp := mSp (fun ((r, p) : Mi.Ro × Nat) => [dRo K C r, dN p]) (fun ((r, p) : Mi.Ro × Nat) => Mi.Ok r ∧ p < r.props.length) (fun ((r, p) : Mi.Ro × Nat) => dWays K (Mi.leftOf r p))
def sp_moves_are_right (K : PySem.W.Frag) (C : Cs) : Sp := mSp (fun ((r, ms) : Mi.Ro × (List Int)) => [dRo K C r, dInts K ms]) (fun ((r, ms) : Mi.Ro × (List Int)) => True) (fun ((r, ms) : Mi.Ro × (List Int)) => dV (.bl (Mi.movesRight r ms)))
def sp_readings_are_right (K : PySem.W.Frag) (C : Cs) : Sp := mSp (fun ((r, rs) : Mi.Ro × (List Int)) => [dRo K C r, dInts K rs]) (fun ((r, rs) : Mi.Ro × (List Int)) => True) (fun ((r, rs) : Mi.Ro × (List Int)) => dV (.bl (Mi.readingsRight r rs)))
def sp_stands (K : PySem.W.Frag) (C : Cs) : Sp := mSp (fun ((rows, p) : (List (List Nat)) × Nat) => [dRows K rows, dN p]) (fun ((rows, p) : (List (List Nat)) × Nat) => True) (fun ((rows, p) : (List (List Nat)) × Nat) => dV (.bl (Mi.stands rows p)))
def sp_say_where (K : PySem.W.Frag) (C : Cs) : Sp := mSp (fun ((r, p, t) : Mi.Ro × Int × Int) => [dRo K C r, dI p, dI t]) (fun ((r, p, t) : Mi.Ro × Int × Int) => Mi.Ok r) (fun ((r, p, t) : Mi.Ro × Int × Int) => dMI (Mi.sayWhere r p t))
def sp_say_fewest (K : PySem.W.Frag) (C : Cs) : Sp := mSp (fun (r : Mi.Ro) => [dRo K C r]) (fun (r : Mi.Ro) => Mi.Ok r) (fun (r : Mi.Ro) => dMI (Mi.sayFewest r))
def sp_say_explain (K : PySem.W.Frag) (C : Cs) : Sp := mSp (fun ((r, p) : Mi.Ro × Int) => [dRo K C r, dI p]) (fun ((r, p) : Mi.Ro × Int) => Mi.Ok r) (fun ((r, p) : Mi.Ro × Int) => dMI (Mi.sayExplain r p))
def sp_explains (K : PySem.W.Frag) (C : Cs) : Sp := mSp (fun ((r, p, fs, c) : Mi.Ro × Nat × (List Int) × (List Nat)) => [dRo K C r, dN p, dInts K fs, dRow K c]) (fun ((r, p, fs, c) : Mi.Ro × Nat × (List Int) × (List Nat)) => Mi.Ok r ∧ p < r.props.length ∧ ∀ f ∈ fs, 0 ≤ f) (fun ((r, p, fs, c) : Mi.Ro × Nat × (List Int) × (List Nat)) => dV (.bl (Mi.explains r p fs c)))
def sp_say_check (K : PySem.W.Frag) (C : Cs) : Sp := mSp (fun ((r, p, fs, c) : Mi.Ro × Int × (List Int) × (List Int)) => [dRo K C r, dI p, dInts K fs, dInts K c]) (fun ((r, p, fs, c) : Mi.Ro × Int × (List Int) × (List Int)) => Mi.Ok r ∧ fs.length ≤ 100 ∧ c.length ≤ 100) (fun ((r, p, fs, c) : Mi.Ro × Int × (List Int) × (List Int)) => dMI (Mi.sayCheck r p fs c))
def sp_say_vote (K : PySem.W.Frag) (C : Cs) : Sp := mSp (fun ((r, p) : Mi.Ro × Int) => [dRo K C r, dI p]) (fun ((r, p) : Mi.Ro × Int) => Mi.Ok r) (fun ((r, p) : Mi.Ro × Int) => dMI (Mi.sayVote r p))
def sp_say_state (K : PySem.W.Frag) (C : Cs) : Sp := mSp (fun (r : Mi.Ro) => [dRo K C r]) (fun (r : Mi.Ro) => True) (fun (r : Mi.Ro) => dMI (Mi.sayState r))
def sp_say_ways (K : PySem.W.Frag) (C : Cs) : Sp := mSp (fun ((r, p) : Mi.Ro × Int) => [dRo K C r, dI p]) (fun ((r, p) : Mi.Ro × Int) => Mi.Ok r) (fun ((r, p) : Mi.Ro × Int) => dMI (Mi.sayWays r p))
def sp_around (K : PySem.W.Frag) (C : Cs) : Sp := mSp (fun ((x, p) : Mi.Se × Nat) => [dSe C x, dN p]) (fun ((x, p) : Mi.Se × Nat) => True) (fun ((x, p) : Mi.Se × Nat) => dSpan K (Mi.around x p))
def sp_stuck_reads (K : PySem.W.Frag) (C : Cs) : Sp := mSp (fun ((x, t) : Mi.Se × Nat) => [dSe C x, dN t]) (fun ((x, t) : Mi.Se × Nat) => x.readings.length ≤ 100) (fun ((x, t) : Mi.Se × Nat) => dM ((Mi.stuckReads x t).map (dSpan K)))
def sp_may_read (K : PySem.W.Frag) (C : Cs) : Sp := mSp (fun ((x, f, been, told, turn, now) : Mi.Se × Int × (List (List Nat)) × (List Nat) × Nat × Nat) => [dSe C x, dI f, dRows K been, dRow K told, dN turn, dN now]) (fun ((x, f, been, told, turn, now) : Mi.Se × Int × (List (List Nat)) × (List Nat) × Nat × Nat) => Mi.SeOk x now ∧ Mi.FaultOk f ∧ turn < told.length ∧ been.length = now + 1 ∧ ∀ l ∈ been, l.length ≤ 100) (fun ((x, f, been, told, turn, now) : Mi.Se × Int × (List (List Nat)) × (List Nat) × Nat × Nat) => dM ((Mi.mayRead x f been told turn now).map (dSpan K)))
def sp_reads_ahead (K : PySem.W.Frag) (C : Cs) : Sp := mSp (fun ((xs, v, told, now) : (List Mi.Se) × Mi.View × (List Nat) × Nat) => [dSes K C xs, dWay K v, dRow K told, dN now]) (fun ((xs, v, told, now) : (List Mi.Se) × Mi.View × (List Nat) × Nat) => Mi.ViewOk xs v now ∧ told.length ≤ 100) (fun ((xs, v, told, now) : (List Mi.Se) × Mi.View × (List Nat) × Nat) => dM ((Mi.readsAhead xs v told now).map (dSpans K)))
def sp_share (K : PySem.W.Frag) (C : Cs) : Sp := mSp (fun ((a, b) : (List Mi.Span) × (List Mi.Span)) => [dSpans K a, dSpans K b]) (fun ((a, b) : (List Mi.Span) × (List Mi.Span)) => True) (fun ((a, b) : (List Mi.Span) × (List Mi.Span)) => dV (.bl (Mi.share a b)))
def sp_alike (K : PySem.W.Frag) (C : Cs) : Sp := mSp (fun ((a, b) : (List (List Mi.Span)) × (List (List Mi.Span))) => [dAhead K a, dAhead K b]) (fun ((a, b) : (List (List Mi.Span)) × (List (List Mi.Span))) => a.length = b.length) (fun ((a, b) : (List (List Mi.Span)) × (List (List Mi.Span))) => dV (.bl (Mi.alike a b)))
def sp_none_alike (K : PySem.W.Frag) (C : Cs) : Sp := mSp (fun ((a, b) : (List (List (List Mi.Span))) × (List (List (List Mi.Span)))) => [dL K (dAhead K) a, dL K (dAhead K) b]) (fun ((a, b) : (List (List (List Mi.Span))) × (List (List (List Mi.Span)))) => ∀ x ∈ a, ∀ y ∈ b, x.length = y.length) (fun ((a, b) : (List (List (List Mi.Span))) × (List (List (List Mi.Span)))) => dV (.bl (Mi.noneAlike a b)))
def sp_views_left (K : PySem.W.Frag) (C : Cs) : Sp := mSp (fun ((r, p) : Mi.Ro × Nat) => [dRo K C r, dN p]) (fun ((r, p) : Mi.Ro × Nat) => Mi.Ok r ∧ p < r.props.length) (fun ((r, p) : Mi.Ro × Nat) => dM ((Mi.viewsLeft r p).map (dWay K)))
def sp_told_settle (K : PySem.W.Frag) (C : Cs) : Sp := mSp (fun ((xs, place, vs, told, now) : (List Mi.Se) × Nat × (List Mi.View) × (List Nat) × Nat) => [dSes K C xs, dN place, dWays K vs, dRow K told, dN now]) (fun ((xs, place, vs, told, now) : (List Mi.Se) × Nat × (List Mi.View) × (List Nat) × Nat) => (∀ v ∈ vs, Mi.ViewOk xs v now) ∧ vs.length ≤ 10000 ∧ told.length ≤ 100 ∧ place < xs.length) (fun ((xs, place, vs, told, now) : (List Mi.Se) × Nat × (List Mi.View) × (List Nat) × Nat) => dV (.bl (Mi.toldSettle xs place vs told now)))
def sp_longer_rows (K : PySem.W.Frag) (C : Cs) : Sp := mSp (fun ((rows, size) : (List (List Nat)) × Nat) => [dL K dMN rows, dN size]) (fun ((rows, size) : (List (List Nat)) × Nat) => rows.length ≤ 1000 ∧ size ≤ 8 ∧ ∀ l ∈ rows, l.length ≤ 100) (fun ((rows, size) : (List (List Nat)) × Nat) => dM ((Mi.longerRows rows size).map dMN))
def sp_candidates (K : PySem.W.Frag) (C : Cs) : Sp := mSp (fun ((size, many) : Nat × Nat) => [dN size, dN many]) (fun ((size, many) : Nat × Nat) => size ≤ 8 ∧ many ≤ 2) (fun ((size, many) : Nat × Nat) => dM ((Mi.candidates size many).map dMN))
def sp_settles_now (K : PySem.W.Frag) (C : Cs) : Sp := mSp (fun ((r, i, told) : Mi.Ro × Nat × (List Nat)) => [dRo K C r, dN i, dRow K told]) (fun ((r, i, told) : Mi.Ro × Nat × (List Nat)) => Mi.Ok r ∧ i < r.sensors.length ∧ told.length ≤ 100) (fun ((r, i, told) : Mi.Ro × Nat × (List Nat)) => dV (.bl (Mi.settlesNow r i told)))
def sp_first_settling (K : PySem.W.Frag) (C : Cs) : Sp := mSp (fun ((r, i, n) : Mi.Ro × Nat × Nat) => [dRo K C r, dN i, dN n]) (fun ((r, i, n) : Mi.Ro × Nat × Nat) => Mi.Ok r ∧ i < r.sensors.length ∧ n ≤ 2) (fun ((r, i, n) : Mi.Ro × Nat × Nat) => dMI (Mi.firstSettling r i n))
def sp_place_in_five (K : PySem.W.Frag) (C : Cs) : Sp := mSp (fun (f : Int) => [dI f]) (fun (f : Int) => True) (fun (f : Int) => dV (.int (Mi.placeInFive f)))
def sp_say_blame (K : PySem.W.Frag) (C : Cs) : Sp := mSp (fun ((r, i) : Mi.Ro × Int) => [dRo K C r, dI i]) (fun ((r, i) : Mi.Ro × Int) => Mi.Ok r) (fun ((r, i) : Mi.Ro × Int) => dMI (Mi.sayBlame r i))
def sp_goes_on (K : PySem.W.Frag) (C : Cs) : Sp := mSp (fun ((ms, als, rows) : (List Int) × (List (List (List Nat))) × (List (List Nat))) => [dInts K ms, dL K (dRows K) als, dRows K rows]) (fun ((ms, als, rows) : (List Int) × (List (List (List Nat))) × (List (List Nat))) => (∀ al ∈ als, Mi.RowsOk ms al) ∧ rows.length = ms.length) (fun ((ms, als, rows) : (List Int) × (List (List (List Nat))) × (List (List Nat))) => dV (.bl (Mi.goesOn ms als rows)))
def sp_say_since (K : PySem.W.Frag) (C : Cs) : Sp := mSp (fun ((r, i) : Mi.Ro × Int) => [dRo K C r, dI i]) (fun ((r, i) : Mi.Ro × Int) => Mi.Ok r) (fun ((r, i) : Mi.Ro × Int) => dMI (Mi.saySince r i))
def sp_never_fine (K : PySem.W.Frag) (C : Cs) : Sp := mSp (fun ((r, t, i) : Mi.Ro × (List (List Mi.Way)) × Nat) => [dRo K C r, dL K (dWays K) t, dN i]) (fun ((r, t, i) : Mi.Ro × (List (List Mi.Way)) × Nat) => Mi.Ok r ∧ i < r.sensors.length ∧ t = Mi.allLeft r) (fun ((r, t, i) : Mi.Ro × (List (List Mi.Way)) × Nat) => dV (.bl (Mi.neverFine r t i)))
def sp_say_sure (K : PySem.W.Frag) (C : Cs) : Sp := mSp (fun (r : Mi.Ro) => [dRo K C r]) (fun (r : Mi.Ro) => Mi.Ok r) (fun (r : Mi.Ro) => dMI (Mi.saySure r))
def sp_say_settle (K : PySem.W.Frag) (C : Cs) : Sp := mSp (fun ((r, i, n) : Mi.Ro × Int × Int) => [dRo K C r, dI i, dI n]) (fun ((r, i, n) : Mi.Ro × Int × Int) => Mi.Ok r) (fun ((r, i, n) : Mi.Ro × Int × Int) => dMI (Mi.saySettle r i n))
def sp_told_are_right (K : PySem.W.Frag) (C : Cs) : Sp := mSp (fun ((r, i, told) : Mi.Ro × Nat × (List Int)) => [dRo K C r, dN i, dInts K told]) (fun ((r, i, told) : Mi.Ro × Nat × (List Int)) => Mi.Ok r ∧ i < r.sensors.length) (fun ((r, i, told) : Mi.Ro × Nat × (List Int)) => dV (.bl (Mi.toldRight r i told)))
def sp_say_settles (K : PySem.W.Frag) (C : Cs) : Sp := mSp (fun ((r, i, told) : Mi.Ro × Int × (List Int)) => [dRo K C r, dI i, dInts K told]) (fun ((r, i, told) : Mi.Ro × Int × (List Int)) => Mi.Ok r) (fun ((r, i, told) : Mi.Ro × Int × (List Int)) => dMI (Mi.saySettles r i told))
def sp_say_reads (K : PySem.W.Frag) (C : Cs) : Sp := mSp (fun ((r, i) : Mi.Ro × Int) => [dRo K C r, dI i]) (fun ((r, i) : Mi.Ro × Int) => Mi.Ok r) (fun ((r, i) : Mi.Ro × Int) => dMI (Mi.sayReads r i))
section
variable {P : Program} {w : World} {K : PySem.W.Frag} {mg : Str → Option Value} {base : Heap} {C : Cs} {σ : L2.St} {G : Hp} {tl : TA} {vs : List V} {H : Hp} {Q : VK} {E : XK}
theorem len_is_prop (h : sp_is_prop K C vs H Q E) : vs.length = 2 := mSp_len (by intro _; rfl) h
theorem ca_is_prop {r : Mi.Ro} {p : Int} (h : EvAR tl σ G [dRo K C r, dI p]) : Ev (tCall (sp_is_prop K C) [] E tl) σ G (.bl (Mi.isProp r p)) := ev_callM (r, p) h trivial rfl
theorem len_is_sensor (h : sp_is_sensor K C vs H Q E) : vs.length = 2 := mSp_len (by intro _; rfl) h
theorem ca_is_sensor {r : Mi.Ro} {p : Int} (h : EvAR tl σ G [dRo K C r, dI p]) : Ev (tCall (sp_is_sensor K C) [] E tl) σ G (.bl (Mi.isSensor r p)) := ev_callM (r, p) h trivial rfl
theorem len_sensors_of (h : sp_sensors_of K C vs H Q E) : vs.length = 2 := mSp_len (by intro _; rfl) h
theorem ca_sensors_of {r : Mi.Ro} {p : Nat} (h : EvAR tl σ G [dRo K C r, dN p]) (hk : Mi.Ok r) : EvR (tCall (sp_sensors_of K C) [] E tl) σ G (dM ((Mi.sensorsOf r p).map (dSe C))) := er_callM (r, p) h hk
theorem len_place_of (h : sp_place_of K C vs H Q E) : vs.length = 2 := mSp_len (by intro _; rfl) h
theorem ca_place_of {r : Mi.Ro} {i : Nat} (h : EvAR tl σ G [dRo K C r, dN i]) (hk : Mi.Ok r ∧ i < r.sensors.length) : Ev (tCall (sp_place_of K C) [] E tl) σ G (.int (Mi.placeOf r i : Nat)) := ev_callM (r, i) h hk rfl
theorem len_goes (h : sp_goes K C vs H Q E) : vs.length = 3 := mSp_len (by intro _; rfl) h
theorem ca_goes {m : Int} {a : Nat} {b : Nat} (h : EvAR tl σ G [dI m, dN a, dN b]) : Ev (tCall (sp_goes K C) [] E tl) σ G (.bl (Mi.goes m a b)) := ev_callM (m, a, b) h trivial rfl
theorem len_comes (h : sp_comes K C vs H Q E) : vs.length = 3 := mSp_len (by intro _; rfl) h
theorem ca_comes {bs : List Nat} {m : Int} {p : Nat} (h : EvAR tl σ G [dRow K bs, dI m, dN p]) : Ev (tCall (sp_comes K C) [] E tl) σ G (.bl (Mi.comes bs m p)) := ev_callM (bs, m, p) h trivial rfl
theorem len_leads (h : sp_leads K C vs H Q E) : vs.length = 3 := mSp_len (by intro _; rfl) h
theorem ca_leads {p : Nat} {m : Int} {bs : List Nat} (h : EvAR tl σ G [dN p, dI m, dRow K bs]) : Ev (tCall (sp_leads K C) [] E tl) σ G (.bl (Mi.leads p m bs)) := ev_callM (p, m, bs) h trivial rfl
theorem len_forward (h : sp_forward K C vs H Q E) : vs.length = 2 := mSp_len (by intro _; rfl) h
theorem ca_forward {ms : List Int} {al : List (List Nat)} (h : EvAR tl σ G [dInts K ms, dRows K al]) (hk : Mi.RowsOk ms al) : EvR (tCall (sp_forward K C) [] E tl) σ G (dM ((Mi.forward ms al).map (dRow K))) := er_callM (ms, al) h hk
theorem len_exists (h : sp_exists K C vs H Q E) : vs.length = 2 := mSp_len (by intro _; rfl) h
theorem ca_exists {ms : List Int} {al : List (List Nat)} (h : EvAR tl σ G [dInts K ms, dRows K al]) (hk : Mi.RowsOk ms al) : Ev (tCall (sp_exists K C) [] E tl) σ G (.bl (Mi.hasCourse ms al)) := ev_callM (ms, al) h hk rfl
theorem len_seats (h : sp_seats K C vs H Q E) : vs.length = 2 := mSp_len (by intro _; rfl) h
theorem ca_seats {ms : List Int} {al : List (List Nat)} (h : EvAR tl σ G [dInts K ms, dRows K al]) (hk : Mi.RowsOk ms al) : EvR (tCall (sp_seats K C) [] E tl) σ G (dM ((Mi.seats ms al).map (dRow K))) := er_callM (ms, al) h hk
theorem len_least_course (h : sp_least_course K C vs H Q E) : vs.length = 2 := mSp_len (by intro _; rfl) h
theorem ca_least_course {ms : List Int} {al : List (List Nat)} (h : EvAR tl σ G [dInts K ms, dRows K al]) (hk : Mi.RowsOk ms al ∧ Mi.hasCourse ms al = true) : EvR (tCall (sp_least_course K C) [] E tl) σ G (dMN (Mi.leastCourse ms al)) := er_callM (ms, al) h hk
theorem len_is_course (h : sp_is_course K C vs H Q E) : vs.length = 3 := mSp_len (by intro _; rfl) h
theorem ca_is_course {ms : List Int} {size : Nat} {c : List Nat} (h : EvAR tl σ G [dInts K ms, dN size, dRow K c]) (hk : 1 ≤ ms.length ∧ ms.length ≤ 100) : Ev (tCall (sp_is_course K C) [] E tl) σ G (.bl (Mi.isCourse ms size c)) := ev_callM (ms, size, c) h hk rfl
theorem len_within (h : sp_within K C vs H Q E) : vs.length = 2 := mSp_len (by intro _; rfl) h
theorem ca_within {c : List Nat} {al : List (List Nat)} (h : EvAR tl σ G [dRow K c, dRows K al]) (hk : c.length = al.length) : Ev (tCall (sp_within K C) [] E tl) σ G (.bl (Mi.within c al)) := ev_callM (c, al) h hk rfl
theorem len_is_fault (h : sp_is_fault K C vs H Q E) : vs.length = 1 := mSp_len (by intro _; rfl) h
theorem ca_is_fault {n : Int} (h : EvAR tl σ G [dI n]) : Ev (tCall (sp_is_fault K C) [] E tl) σ G (.bl (Mi.isFault n)) := ev_callM n h trivial rfl
theorem len_readings_from (h : sp_readings_from K C vs H Q E) : vs.length = 2 := mSp_len (by intro _; rfl) h
theorem ca_readings_from {x : Mi.Se} {t : Nat} (h : EvAR tl σ G [dSe C x, dN t]) (hk : x.readings.length ≤ 100) : EvR (tCall (sp_readings_from K C) [] E tl) σ G (dMI (Mi.readingsFrom x t)) := er_callM (x, t) h hk
theorem len_can_stick (h : sp_can_stick K C vs H Q E) : vs.length = 2 := mSp_len (by intro _; rfl) h
theorem ca_can_stick {x : Mi.Se} {t : Nat} (h : EvAR tl σ G [dSe C x, dN t]) (hk : x.readings.length ≤ 100) : Ev (tCall (sp_can_stick K C) [] E tl) σ G (.bl (Mi.canStick x t)) := ev_callM (x, t) h hk rfl
theorem len_stuck_ticks (h : sp_stuck_ticks K C vs H Q E) : vs.length = 2 := mSp_len (by intro _; rfl) h
theorem ca_stuck_ticks {x : Mi.Se} {now : Nat} (h : EvAR tl σ G [dSe C x, dN now]) (hk : Mi.SeOk x now) : EvR (tCall (sp_stuck_ticks K C) [] E tl) σ G (dMN (Mi.stuckTicks x now)) := er_callM (x, now) h hk
theorem len_options (h : sp_options K C vs H Q E) : vs.length = 2 := mSp_len (by intro _; rfl) h
theorem ca_options {x : Mi.Se} {now : Nat} (h : EvAR tl σ G [dSe C x, dN now]) (hk : Mi.SeOk x now) : EvR (tCall (sp_options K C) [] E tl) σ G (dMI (Mi.options x now)) := er_callM (x, now) h hk
theorem len_may_have (h : sp_may_have K C vs H Q E) : vs.length = 3 := mSp_len (by intro _; rfl) h
theorem ca_may_have {x : Mi.Se} {f : Int} {now : Nat} (h : EvAR tl σ G [dSe C x, dI f, dN now]) (hk : Mi.SeOk x now) : Ev (tCall (sp_may_have K C) [] E tl) σ G (.bl (Mi.mayHave x f now)) := ev_callM (x, f, now) h hk rfl
theorem len_reading_about (h : sp_reading_about K C vs H Q E) : vs.length = 4 := mSp_len (by intro _; rfl) h
theorem ca_reading_about {x : Mi.Se} {f : Int} {t : Nat} {now : Nat} (h : EvAR tl σ G [dSe C x, dI f, dN t, dN now]) (hk : Mi.SeOk x now ∧ 0 ≤ f ∧ t ≤ now) : Ev (tCall (sp_reading_about K C) [] E tl) σ G (.int (Mi.readingAbout x f t now)) := ev_callM (x, f, t, now) h hk rfl
theorem len_agrees (h : sp_agrees K C vs H Q E) : vs.length = 3 := mSp_len (by intro _; rfl) h
theorem ca_agrees {x : Mi.Se} {n : Int} {p : Nat} (h : EvAR tl σ G [dSe C x, dI n, dN p]) : Ev (tCall (sp_agrees K C) [] E tl) σ G (.bl (Mi.agrees x n p)) := ev_callM (x, n, p) h trivial rfl
theorem len_sight (h : sp_sight K C vs H Q E) : vs.length = 4 := mSp_len (by intro _; rfl) h
theorem ca_sight {x : Mi.Se} {f : Int} {size : Nat} {now : Nat} (h : EvAR tl σ G [dSe C x, dI f, dN size, dN now]) (hk : Mi.SeOk x now ∧ 0 ≤ f ∧ size ≤ 8) : EvR (tCall (sp_sight K C) [] E tl) σ G (dM ((Mi.sight x f size now).map (dRow K))) := er_callM (x, f, size, now) h hk
theorem len_whole (h : sp_whole K C vs H Q E) : vs.length = 2 := mSp_len (by intro _; rfl) h
theorem ca_whole {size : Nat} {now : Nat} (h : EvAR tl σ G [dN size, dN now]) (hk : size ≤ 8 ∧ now ≤ 24) : EvR (tCall (sp_whole K C) [] E tl) σ G (dM ((Mi.whole size now).map (dRow K))) := er_callM (size, now) h hk
theorem len_overlap (h : sp_overlap K C vs H Q E) : vs.length = 2 := mSp_len (by intro _; rfl) h
theorem ca_overlap {a : List (List Nat)} {b : List (List Nat)} (h : EvAR tl σ G [dRows K a, dRows K b]) (hk : a.length = b.length ∧ a.length ≤ 100 ∧ ∀ l ∈ a, l.length ≤ 100) : EvR (tCall (sp_overlap K C) [] E tl) σ G (dM ((Mi.overlap a b).map (dRow K))) := er_callM (a, b) h hk
theorem len_count_faults (h : sp_count_faults K C vs H Q E) : vs.length = 1 := mSp_len (by intro _; rfl) h
theorem ca_count_faults {fs : List Int} (h : EvAR tl σ G [dInts K fs]) (hk : fs.length ≤ 1000) : Ev (tCall (sp_count_faults K C) [] E tl) σ G (.int (Mi.countFaults fs : Nat)) := ev_callM fs h hk rfl
theorem len_widened (h : sp_widened K C vs H Q E) : vs.length = 5 := mSp_len (by intro _; rfl) h
theorem ca_widened {ps : List Mi.Way} {x : Mi.Se} {size : Nat} {now : Nat} {most : Nat} (h : EvAR tl σ G [dWays K ps, dSe C x, dN size, dN now, dN most]) (hk : ps.length ≤ 1000 ∧ (∀ w ∈ ps, Mi.WayOk w now) ∧ Mi.SeOk x now ∧ size ≤ 8) : EvR (tCall (sp_widened K C) [] E tl) σ G (dM ((Mi.widened ps x size now most).map (dWay K))) := er_callM (ps, x, size, now, most) h hk
theorem len_possible (h : sp_possible K C vs H Q E) : vs.length = 2 := mSp_len (by intro _; rfl) h
theorem ca_possible {r : Mi.Ro} {p : Nat} (h : EvAR tl σ G [dRo K C r, dN p]) (hk : Mi.Ok r ∧ p < r.props.length) : EvR (tCall (sp_possible K C) [] E tl) σ G (dM ((Mi.possible r p).map (dWay K))) := er_callM (r, p) h hk
theorem len_all_possible (h : sp_all_possible K C vs H Q E) : vs.length = 1 := mSp_len (by intro _; rfl) h
theorem ca_all_possible {r : Mi.Ro} (h : EvAR tl σ G [dRo K C r]) (hk : Mi.Ok r) : EvR (tCall (sp_all_possible K C) [] E tl) σ G (dM ((Mi.allPossible r).map (dWays K))) := er_callM r h hk
theorem len_fewest_of (h : sp_fewest_of K C vs H Q E) : vs.length = 1 := mSp_len (by intro _; rfl) h
theorem ca_fewest_of {ws : List Mi.Way} (h : EvAR tl σ G [dWays K ws]) (hk : Mi.WaysOk ws) : Ev (tCall (sp_fewest_of K C) [] E tl) σ G (.int (Mi.fewestOf ws)) := ev_callM ws h hk rfl
theorem len_fewest_each (h : sp_fewest_each K C vs H Q E) : vs.length = 1 := mSp_len (by intro _; rfl) h
theorem ca_fewest_each {t : List (List Mi.Way)} (h : EvAR tl σ G [dL K (dWays K) t]) (hk : t.length ≤ 100 ∧ ∀ ws ∈ t, Mi.WaysOk ws) : EvR (tCall (sp_fewest_each K C) [] E tl) σ G (dMI (Mi.fewestEach t)) := er_callM t h hk
theorem len_something (h : sp_something K C vs H Q E) : vs.length = 2 := mSp_len (by intro _; rfl) h
theorem ca_something {few : List Int} {most : Nat} (h : EvAR tl σ G [dInts K few, dN most]) : Ev (tCall (sp_something K C) [] E tl) σ G (.bl (Mi.something few most)) := ev_callM (few, most) h trivial rfl
theorem len_can_be (h : sp_can_be K C vs H Q E) : vs.length = 1 := mSp_len (by intro _; rfl) h
theorem ca_can_be {r : Mi.Ro} (h : EvAR tl σ G [dRo K C r]) (hk : Mi.Ok r) : Ev (tCall (sp_can_be K C) [] E tl) σ G (.bl (Mi.canBe r)) := ev_callM r h hk rfl
theorem len_at_most (h : sp_at_most K C vs H Q E) : vs.length = 2 := mSp_len (by intro _; rfl) h
theorem ca_at_most {ws : List Mi.Way} {limit : Int} (h : EvAR tl σ G [dWays K ws, dI limit]) (hk : Mi.WaysOk ws) : EvR (tCall (sp_at_most K C) [] E tl) σ G (dM ((Mi.atMost ws limit).map (dWay K))) := er_callM (ws, limit) h hk
theorem len_all_left (h : sp_all_left K C vs H Q E) : vs.length = 1 := mSp_len (by intro _; rfl) h
theorem ca_all_left {r : Mi.Ro} (h : EvAR tl σ G [dRo K C r]) (hk : Mi.Ok r) : EvR (tCall (sp_all_left K C) [] E tl) σ G (dM ((Mi.allLeft r).map (dWays K))) := er_callM r h hk
theorem len_left_of (h : sp_left_of K C vs H Q E) : vs.length = 2 := mSp_len (by intro _; rfl) h
theorem ca_left_of {r : Mi.Ro} {p : Nat} (h : EvAR tl σ G [dRo K C r, dN p]) (hk : Mi.Ok r ∧ p < r.props.length) : EvR (tCall (sp_left_of K C) [] E tl) σ G (dWays K (Mi.leftOf r p)) := er_callM (r, p) h hk
theorem len_moves_are_right (h : sp_moves_are_right K C vs H Q E) : vs.length = 2 := mSp_len (by intro _; rfl) h
theorem ca_moves_are_right {r : Mi.Ro} {ms : List Int} (h : EvAR tl σ G [dRo K C r, dInts K ms]) : Ev (tCall (sp_moves_are_right K C) [] E tl) σ G (.bl (Mi.movesRight r ms)) := ev_callM (r, ms) h trivial rfl
theorem len_readings_are_right (h : sp_readings_are_right K C vs H Q E) : vs.length = 2 := mSp_len (by intro _; rfl) h
theorem ca_readings_are_right {r : Mi.Ro} {rs : List Int} (h : EvAR tl σ G [dRo K C r, dInts K rs]) : Ev (tCall (sp_readings_are_right K C) [] E tl) σ G (.bl (Mi.readingsRight r rs)) := ev_callM (r, rs) h trivial rfl
theorem len_stands (h : sp_stands K C vs H Q E) : vs.length = 2 := mSp_len (by intro _; rfl) h
theorem ca_stands {rows : List (List Nat)} {p : Nat} (h : EvAR tl σ G [dRows K rows, dN p]) : Ev (tCall (sp_stands K C) [] E tl) σ G (.bl (Mi.stands rows p)) := ev_callM (rows, p) h trivial rfl
theorem len_say_where (h : sp_say_where K C vs H Q E) : vs.length = 3 := mSp_len (by intro _; rfl) h
theorem ca_say_where {r : Mi.Ro} {p : Int} {t : Int} (h : EvAR tl σ G [dRo K C r, dI p, dI t]) (hk : Mi.Ok r) : EvR (tCall (sp_say_where K C) [] E tl) σ G (dMI (Mi.sayWhere r p t)) := er_callM (r, p, t) h hk
theorem len_say_fewest (h : sp_say_fewest K C vs H Q E) : vs.length = 1 := mSp_len (by intro _; rfl) h
theorem ca_say_fewest {r : Mi.Ro} (h : EvAR tl σ G [dRo K C r]) (hk : Mi.Ok r) : EvR (tCall (sp_say_fewest K C) [] E tl) σ G (dMI (Mi.sayFewest r)) := er_callM r h hk
theorem len_say_explain (h : sp_say_explain K C vs H Q E) : vs.length = 2 := mSp_len (by intro _; rfl) h
theorem ca_say_explain {r : Mi.Ro} {p : Int} (h : EvAR tl σ G [dRo K C r, dI p]) (hk : Mi.Ok r) : EvR (tCall (sp_say_explain K C) [] E tl) σ G (dMI (Mi.sayExplain r p)) := er_callM (r, p) h hk
theorem len_explains (h : sp_explains K C vs H Q E) : vs.length = 4 := mSp_len (by intro _; rfl) h
theorem ca_explains {r : Mi.Ro} {p : Nat} {fs : List Int} {c : List Nat} (h : EvAR tl σ G [dRo K C r, dN p, dInts K fs, dRow K c]) (hk : Mi.Ok r ∧ p < r.props.length ∧ ∀ f ∈ fs, 0 ≤ f) : Ev (tCall (sp_explains K C) [] E tl) σ G (.bl (Mi.explains r p fs c)) := ev_callM (r, p, fs, c) h hk rfl
theorem len_say_check (h : sp_say_check K C vs H Q E) : vs.length = 4 := mSp_len (by intro _; rfl) h
theorem ca_say_check {r : Mi.Ro} {p : Int} {fs : List Int} {c : List Int} (h : EvAR tl σ G [dRo K C r, dI p, dInts K fs, dInts K c]) (hk : Mi.Ok r ∧ fs.length ≤ 100 ∧ c.length ≤ 100) : EvR (tCall (sp_say_check K C) [] E tl) σ G (dMI (Mi.sayCheck r p fs c)) := er_callM (r, p, fs, c) h hk
theorem len_say_vote (h : sp_say_vote K C vs H Q E) : vs.length = 2 := mSp_len (by intro _; rfl) h
theorem ca_say_vote {r : Mi.Ro} {p : Int} (h : EvAR tl σ G [dRo K C r, dI p]) (hk : Mi.Ok r) : EvR (tCall (sp_say_vote K C) [] E tl) σ G (dMI (Mi.sayVote r p)) := er_callM (r, p) h hk
theorem len_say_state (h : sp_say_state K C vs H Q E) : vs.length = 1 := mSp_len (by intro _; rfl) h
theorem ca_say_state {r : Mi.Ro} (h : EvAR tl σ G [dRo K C r]) : EvR (tCall (sp_say_state K C) [] E tl) σ G (dMI (Mi.sayState r)) := er_callM r h trivial
theorem len_say_ways (h : sp_say_ways K C vs H Q E) : vs.length = 2 := mSp_len (by intro _; rfl) h
theorem ca_say_ways {r : Mi.Ro} {p : Int} (h : EvAR tl σ G [dRo K C r, dI p]) (hk : Mi.Ok r) : EvR (tCall (sp_say_ways K C) [] E tl) σ G (dMI (Mi.sayWays r p)) := er_callM (r, p) h hk
theorem len_around (h : sp_around K C vs H Q E) : vs.length = 2 := mSp_len (by intro _; rfl) h
theorem ca_around {x : Mi.Se} {p : Nat} (h : EvAR tl σ G [dSe C x, dN p]) : EvR (tCall (sp_around K C) [] E tl) σ G (dSpan K (Mi.around x p)) := er_callM (x, p) h trivial
theorem len_stuck_reads (h : sp_stuck_reads K C vs H Q E) : vs.length = 2 := mSp_len (by intro _; rfl) h
theorem ca_stuck_reads {x : Mi.Se} {t : Nat} (h : EvAR tl σ G [dSe C x, dN t]) (hk : x.readings.length ≤ 100) : EvR (tCall (sp_stuck_reads K C) [] E tl) σ G (dM ((Mi.stuckReads x t).map (dSpan K))) := er_callM (x, t) h hk
theorem len_may_read (h : sp_may_read K C vs H Q E) : vs.length = 6 := mSp_len (by intro _; rfl) h
theorem ca_may_read {x : Mi.Se} {f : Int} {been : List (List Nat)} {told : List Nat} {turn : Nat} {now : Nat} (h : EvAR tl σ G [dSe C x, dI f, dRows K been, dRow K told, dN turn, dN now]) (hk : Mi.SeOk x now ∧ Mi.FaultOk f ∧ turn < told.length ∧ been.length = now + 1 ∧ ∀ l ∈ been, l.length ≤ 100) : EvR (tCall (sp_may_read K C) [] E tl) σ G (dM ((Mi.mayRead x f been told turn now).map (dSpan K))) := er_callM (x, f, been, told, turn, now) h hk
theorem len_reads_ahead (h : sp_reads_ahead K C vs H Q E) : vs.length = 4 := mSp_len (by intro _; rfl) h
theorem ca_reads_ahead {xs : List Mi.Se} {v : Mi.View} {told : List Nat} {now : Nat} (h : EvAR tl σ G [dSes K C xs, dWay K v, dRow K told, dN now]) (hk : Mi.ViewOk xs v now ∧ told.length ≤ 100) : EvR (tCall (sp_reads_ahead K C) [] E tl) σ G (dM ((Mi.readsAhead xs v told now).map (dSpans K))) := er_callM (xs, v, told, now) h hk
theorem len_share (h : sp_share K C vs H Q E) : vs.length = 2 := mSp_len (by intro _; rfl) h
theorem ca_share {a : List Mi.Span} {b : List Mi.Span} (h : EvAR tl σ G [dSpans K a, dSpans K b]) : Ev (tCall (sp_share K C) [] E tl) σ G (.bl (Mi.share a b)) := ev_callM (a, b) h trivial rfl
theorem len_alike (h : sp_alike K C vs H Q E) : vs.length = 2 := mSp_len (by intro _; rfl) h
theorem ca_alike {a : List (List Mi.Span)} {b : List (List Mi.Span)} (h : EvAR tl σ G [dAhead K a, dAhead K b]) (hk : a.length = b.length) : Ev (tCall (sp_alike K C) [] E tl) σ G (.bl (Mi.alike a b)) := ev_callM (a, b) h hk rfl
theorem len_none_alike (h : sp_none_alike K C vs H Q E) : vs.length = 2 := mSp_len (by intro _; rfl) h
theorem ca_none_alike {a : List (List (List Mi.Span))} {b : List (List (List Mi.Span))} (h : EvAR tl σ G [dL K (dAhead K) a, dL K (dAhead K) b]) (hk : ∀ x ∈ a, ∀ y ∈ b, x.length = y.length) : Ev (tCall (sp_none_alike K C) [] E tl) σ G (.bl (Mi.noneAlike a b)) := ev_callM (a, b) h hk rfl
theorem len_views_left (h : sp_views_left K C vs H Q E) : vs.length = 2 := mSp_len (by intro _; rfl) h
theorem ca_views_left {r : Mi.Ro} {p : Nat} (h : EvAR tl σ G [dRo K C r, dN p]) (hk : Mi.Ok r ∧ p < r.props.length) : EvR (tCall (sp_views_left K C) [] E tl) σ G (dM ((Mi.viewsLeft r p).map (dWay K))) := er_callM (r, p) h hk
theorem len_told_settle (h : sp_told_settle K C vs H Q E) : vs.length = 5 := mSp_len (by intro _; rfl) h
theorem ca_told_settle {xs : List Mi.Se} {place : Nat} {vs : List Mi.View} {told : List Nat} {now : Nat} (h : EvAR tl σ G [dSes K C xs, dN place, dWays K vs, dRow K told, dN now]) (hk : (∀ v ∈ vs, Mi.ViewOk xs v now) ∧ vs.length ≤ 10000 ∧ told.length ≤ 100 ∧ place < xs.length) : Ev (tCall (sp_told_settle K C) [] E tl) σ G (.bl (Mi.toldSettle xs place vs told now)) := ev_callM (xs, place, vs, told, now) h hk rfl
theorem len_longer_rows (h : sp_longer_rows K C vs H Q E) : vs.length = 2 := mSp_len (by intro _; rfl) h
theorem ca_longer_rows {rows : List (List Nat)} {size : Nat} (h : EvAR tl σ G [dL K dMN rows, dN size]) (hk : rows.length ≤ 1000 ∧ size ≤ 8 ∧ ∀ l ∈ rows, l.length ≤ 100) : EvR (tCall (sp_longer_rows K C) [] E tl) σ G (dM ((Mi.longerRows rows size).map dMN)) := er_callM (rows, size) h hk
theorem len_candidates (h : sp_candidates K C vs H Q E) : vs.length = 2 := mSp_len (by intro _; rfl) h
theorem ca_candidates {size : Nat} {many : Nat} (h : EvAR tl σ G [dN size, dN many]) (hk : size ≤ 8 ∧ many ≤ 2) : EvR (tCall (sp_candidates K C) [] E tl) σ G (dM ((Mi.candidates size many).map dMN)) := er_callM (size, many) h hk
theorem len_settles_now (h : sp_settles_now K C vs H Q E) : vs.length = 3 := mSp_len (by intro _; rfl) h
theorem ca_settles_now {r : Mi.Ro} {i : Nat} {told : List Nat} (h : EvAR tl σ G [dRo K C r, dN i, dRow K told]) (hk : Mi.Ok r ∧ i < r.sensors.length ∧ told.length ≤ 100) : Ev (tCall (sp_settles_now K C) [] E tl) σ G (.bl (Mi.settlesNow r i told)) := ev_callM (r, i, told) h hk rfl
theorem len_first_settling (h : sp_first_settling K C vs H Q E) : vs.length = 3 := mSp_len (by intro _; rfl) h
theorem ca_first_settling {r : Mi.Ro} {i : Nat} {n : Nat} (h : EvAR tl σ G [dRo K C r, dN i, dN n]) (hk : Mi.Ok r ∧ i < r.sensors.length ∧ n ≤ 2) : EvR (tCall (sp_first_settling K C) [] E tl) σ G (dMI (Mi.firstSettling r i n)) := er_callM (r, i, n) h hk
theorem len_place_in_five (h : sp_place_in_five K C vs H Q E) : vs.length = 1 := mSp_len (by intro _; rfl) h
theorem ca_place_in_five {f : Int} (h : EvAR tl σ G [dI f]) : Ev (tCall (sp_place_in_five K C) [] E tl) σ G (.int (Mi.placeInFive f)) := ev_callM f h trivial rfl
theorem len_say_blame (h : sp_say_blame K C vs H Q E) : vs.length = 2 := mSp_len (by intro _; rfl) h
theorem ca_say_blame {r : Mi.Ro} {i : Int} (h : EvAR tl σ G [dRo K C r, dI i]) (hk : Mi.Ok r) : EvR (tCall (sp_say_blame K C) [] E tl) σ G (dMI (Mi.sayBlame r i)) := er_callM (r, i) h hk
theorem len_goes_on (h : sp_goes_on K C vs H Q E) : vs.length = 3 := mSp_len (by intro _; rfl) h
theorem ca_goes_on {ms : List Int} {als : List (List (List Nat))} {rows : List (List Nat)} (h : EvAR tl σ G [dInts K ms, dL K (dRows K) als, dRows K rows]) (hk : (∀ al ∈ als, Mi.RowsOk ms al) ∧ rows.length = ms.length) : Ev (tCall (sp_goes_on K C) [] E tl) σ G (.bl (Mi.goesOn ms als rows)) := ev_callM (ms, als, rows) h hk rfl
theorem len_say_since (h : sp_say_since K C vs H Q E) : vs.length = 2 := mSp_len (by intro _; rfl) h
theorem ca_say_since {r : Mi.Ro} {i : Int} (h : EvAR tl σ G [dRo K C r, dI i]) (hk : Mi.Ok r) : EvR (tCall (sp_say_since K C) [] E tl) σ G (dMI (Mi.saySince r i)) := er_callM (r, i) h hk
theorem len_never_fine (h : sp_never_fine K C vs H Q E) : vs.length = 3 := mSp_len (by intro _; rfl) h
theorem ca_never_fine {r : Mi.Ro} {t : List (List Mi.Way)} {i : Nat} (h : EvAR tl σ G [dRo K C r, dL K (dWays K) t, dN i]) (hk : Mi.Ok r ∧ i < r.sensors.length ∧ t = Mi.allLeft r) : Ev (tCall (sp_never_fine K C) [] E tl) σ G (.bl (Mi.neverFine r t i)) := ev_callM (r, t, i) h hk rfl
theorem len_say_sure (h : sp_say_sure K C vs H Q E) : vs.length = 1 := mSp_len (by intro _; rfl) h
theorem ca_say_sure {r : Mi.Ro} (h : EvAR tl σ G [dRo K C r]) (hk : Mi.Ok r) : EvR (tCall (sp_say_sure K C) [] E tl) σ G (dMI (Mi.saySure r)) := er_callM r h hk
theorem len_say_settle (h : sp_say_settle K C vs H Q E) : vs.length = 3 := mSp_len (by intro _; rfl) h
theorem ca_say_settle {r : Mi.Ro} {i : Int} {n : Int} (h : EvAR tl σ G [dRo K C r, dI i, dI n]) (hk : Mi.Ok r) : EvR (tCall (sp_say_settle K C) [] E tl) σ G (dMI (Mi.saySettle r i n)) := er_callM (r, i, n) h hk
theorem len_told_are_right (h : sp_told_are_right K C vs H Q E) : vs.length = 3 := mSp_len (by intro _; rfl) h
theorem ca_told_are_right {r : Mi.Ro} {i : Nat} {told : List Int} (h : EvAR tl σ G [dRo K C r, dN i, dInts K told]) (hk : Mi.Ok r ∧ i < r.sensors.length) : Ev (tCall (sp_told_are_right K C) [] E tl) σ G (.bl (Mi.toldRight r i told)) := ev_callM (r, i, told) h hk rfl
theorem len_say_settles (h : sp_say_settles K C vs H Q E) : vs.length = 3 := mSp_len (by intro _; rfl) h
theorem ca_say_settles {r : Mi.Ro} {i : Int} {told : List Int} (h : EvAR tl σ G [dRo K C r, dI i, dInts K told]) (hk : Mi.Ok r) : EvR (tCall (sp_say_settles K C) [] E tl) σ G (dMI (Mi.saySettles r i told)) := er_callM (r, i, told) h hk
theorem len_say_reads (h : sp_say_reads K C vs H Q E) : vs.length = 2 := mSp_len (by intro _; rfl) h
theorem ca_say_reads {r : Mi.Ro} {i : Int} (h : EvAR tl σ G [dRo K C r, dI i]) (hk : Mi.Ok r) : EvR (tCall (sp_say_reads K C) [] E tl) σ G (dMI (Mi.sayReads r i)) := er_callM (r, i) h hk
end
end Sk
/-! part Rd -/
namespace Sk
open PySem PySem.Spec PyProof.Rows L2 Evl
abbrev s_is_prop : Stmt := top 6
abbrev N_is_prop : List Str := ["room", "prop"]
def t_is_prop (K : PySem.W.Frag) (C : Cs) : TS :=
  (tRet (tChain (rI0 fun i j => .bl (decide (i ≤ j))) (rI0 fun i j => .bl (decide (i < j))) (tC (.int 0)) (tVar 1) (tCB (rLenS K) (tCons (tFld K (tVar 0) "props") tNil))))
abbrev s_is_sensor : Stmt := top 7
abbrev N_is_sensor : List Str := ["room", "number"]
def t_is_sensor (K : PySem.W.Frag) (C : Cs) : TS :=
  (tRet (tChain (rI0 fun i j => .bl (decide (i ≤ j))) (rI0 fun i j => .bl (decide (i < j))) (tC (.int 0)) (tVar 1) (tCB (rLenS K) (tCons (tFld K (tVar 0) "sensors") tNil))))
abbrev s_sensors_of : Stmt := top 8
abbrev N_sensors_of : List Str := ["room", "prop", "sensor"]
def t_sensors_of (K : PySem.W.Frag) (C : Cs) : TS :=
  (tRet (tLc (iList K (tFld K (tVar 0) "sensors")) (gName 2) (tTest (tOp rEq (tFld K (tVar 2) "prop") (tVar 1))) (tVar 2) [2]))
abbrev s_place_of : Stmt := top 9
abbrev N_place_of : List Str := ["room", "number", "prop", "k"]
def t_place_of (K : PySem.W.Frag) (C : Cs) : TS :=
  (tSeq (tAsg (tFld K (tOp (rIxL K) (tFld K (tVar 0) "sensors") (tVar 1)) "prop") (gName 2))
    (tRet (tCB (rLenS K) (tCons (tLc (iRng1 (tCons (tVar 1) tNil)) (gName 3) (tTest (tOp rEq (tFld K (tOp (rIxL K) (tFld K (tVar 0) "sensors") (tVar 3)) "prop") (tVar 2))) (tVar 3) [3]) tNil))))
abbrev s_goes : Stmt := top 13
abbrev N_goes : List Str := ["move", "before", "after"]
def t_goes (K : PySem.W.Frag) (C : Cs) : TS :=
  (tSeq (tIfS (tTest (tOp rEq (tVar 0) (tC (.int (-1))))) (tRet (tOp rEq (tVar 1) (tVar 2))) tNext)
    (tRet (tOrV (tOp rEq (tVar 0) (tC (.int (-2)))) (tOp rEq (tVar 0) (tVar 2)))))
abbrev s_comes : Stmt := top 14
abbrev N_comes : List Str := ["befores", "move", "position"]
def t_comes (K : PySem.W.Frag) (C : Cs) : TS :=
  (tSeq (tIfS (tTest (tOp rEq (tVar 1) (tC (.int (-1))))) (tRet (tOp (rIn K false) (tVar 2) (tVar 0))) tNext)
    (tSeq (tIfS (tTest (tOp rEq (tVar 1) (tC (.int (-2))))) (tRet (tOp (rI0 fun i j => .bl (decide (j < i))) (tCB (rLenS K) (tCons (tVar 0) tNil)) (tC (.int 0)))) tNext)
    (tRet (tAndV (tOp (rI0 fun i j => .bl (decide (j < i))) (tCB (rLenS K) (tCons (tVar 0) tNil)) (tC (.int 0))) (tOp rEq (tVar 2) (tVar 1))))))
abbrev s_leads : Stmt := top 15
abbrev N_leads : List Str := ["position", "move", "afters"]
def t_leads (K : PySem.W.Frag) (C : Cs) : TS :=
  (tSeq (tIfS (tTest (tOp rEq (tVar 1) (tC (.int (-1))))) (tRet (tOp (rIn K false) (tVar 0) (tVar 2))) tNext)
    (tSeq (tIfS (tTest (tOp rEq (tVar 1) (tC (.int (-2))))) (tRet (tOp (rI0 fun i j => .bl (decide (j < i))) (tCB (rLenS K) (tCons (tVar 2) tNil)) (tC (.int 0)))) tNext)
    (tRet (tOp (rIn K false) (tVar 1) (tVar 2)))))
abbrev s_forward : Stmt := top 16
abbrev N_forward : List Str := ["moves", "allowed", "rows", "tick", "befores", "position"]
def t_forward (K : PySem.W.Frag) (C : Cs) : TS :=
  (tSeq (tAsg (tLst (tCons (tCB (rListS K) (tCons (tOp (rIxL K) (tVar 1) (tC (.int 0))) tNil)) tNil)) (gName 2))
    (tSeq (tFor (iRng2 (tCons (tC (.int 1)) (tCons (tCB (rLenS K) (tCons (tVar 0) tNil)) tNil))) (gName 3) (tSeq (tAsg (tOp (rIxL K) (tVar 2) (tOp (rI0 fun i j => .int (i - j)) (tVar 3) (tC (.int 1)))) (gName 4))
    (tDrop (tBM K "list" rAppend (tVar 2) (tCons (tLc (iList K (tOp (rIxL K) (tVar 1) (tVar 3))) (gName 5) (tB (tCall (sp_comes K C) [] E0 (tCons (tVar 4) (tCons (tOp (rIxL K) (tVar 0) (tVar 3)) (tCons (tVar 5) tNil))))) (tVar 5) [5]) tNil)))))
    (tRet (tVar 2))))
abbrev s_exists : Stmt := top 17
abbrev N_exists : List Str := ["moves", "allowed", "rows"]
def t_exists (K : PySem.W.Frag) (C : Cs) : TS :=
  (tSeq (tAsg (tCall (sp_forward K C) [] E0 (tCons (tVar 0) (tCons (tVar 1) tNil))) (gName 2))
    (tRet (tOp (rI0 fun i j => .bl (decide (j < i))) (tCB (rLenS K) (tCons (tOp (rIxL K) (tVar 2) (tOp (rI0 fun i j => .int (i - j)) (tCB (rLenS K) (tCons (tVar 2) tNil)) (tC (.int 1)))) tNil)) (tC (.int 0)))))
abbrev s_seats : Stmt := top 18
abbrev N_seats : List Str := ["moves", "allowed", "rows", "back", "tick", "afters", "position"]
def t_seats (K : PySem.W.Frag) (C : Cs) : TS :=
  (tSeq (tAsg (tCall (sp_forward K C) [] E0 (tCons (tVar 0) (tCons (tVar 1) tNil))) (gName 2))
    (tSeq (tAsg (tLst (tCons (tOp (rIxL K) (tVar 2) (tOp (rI0 fun i j => .int (i - j)) (tCB (rLenS K) (tCons (tVar 2) tNil)) (tC (.int 1)))) tNil)) (gName 3))
    (tSeq (tFor (iRng3 (tCons (tOp (rI0 fun i j => .int (i - j)) (tCB (rLenS K) (tCons (tVar 0) tNil)) (tC (.int 1))) (tCons (tC (.int 0)) (tCons (tUn (rU fun i => .int (-i)) (tC (.int 1))) tNil)))) (gName 4) (tSeq (tAsg (tOp (rIxL K) (tVar 3) (tOp (rI0 fun i j => .int (i - j)) (tCB (rLenS K) (tCons (tVar 3) tNil)) (tC (.int 1)))) (gName 5))
    (tDrop (tBM K "list" rAppend (tVar 3) (tCons (tLc (iList K (tOp (rIxL K) (tVar 2) (tOp (rI0 fun i j => .int (i - j)) (tVar 4) (tC (.int 1))))) (gName 6) (tB (tCall (sp_leads K C) [] E0 (tCons (tVar 6) (tCons (tOp (rIxL K) (tVar 0) (tVar 4)) (tCons (tVar 5) tNil))))) (tVar 6) [6]) tNil)))))
    (tRet (tRevL K (tVar 3))))))
abbrev s_least_course : Stmt := top 19
abbrev N_least_course : List Str := ["moves", "allowed", "rows", "back", "tick", "after", "position"]
def t_least_course (K : PySem.W.Frag) (C : Cs) : TS :=
  (tSeq (tAsg (tCall (sp_forward K C) [] E0 (tCons (tVar 0) (tCons (tVar 1) tNil))) (gName 2))
    (tSeq (tAsg (tLst (tCons (tCB (rMin K) (tCons (tOp (rIxL K) (tVar 2) (tOp (rI0 fun i j => .int (i - j)) (tCB (rLenS K) (tCons (tVar 2) tNil)) (tC (.int 1)))) tNil)) tNil)) (gName 3))
    (tSeq (tFor (iRng3 (tCons (tOp (rI0 fun i j => .int (i - j)) (tCB (rLenS K) (tCons (tVar 0) tNil)) (tC (.int 1))) (tCons (tC (.int 0)) (tCons (tUn (rU fun i => .int (-i)) (tC (.int 1))) tNil)))) (gName 4) (tSeq (tAsg (tOp (rIxL K) (tVar 3) (tOp (rI0 fun i j => .int (i - j)) (tCB (rLenS K) (tCons (tVar 3) tNil)) (tC (.int 1)))) (gName 5))
    (tDrop (tBM K "list" rAppend (tVar 3) (tCons (tCB (rMin K) (tCons (tLc (iList K (tOp (rIxL K) (tVar 2) (tOp (rI0 fun i j => .int (i - j)) (tVar 4) (tC (.int 1))))) (gName 6) (tB (tCall (sp_goes K C) [] E0 (tCons (tOp (rIxL K) (tVar 0) (tVar 4)) (tCons (tVar 6) (tCons (tVar 5) tNil))))) (tVar 6) [6]) tNil)) tNil)))))
    (tRet (tRevL K (tVar 3))))))
abbrev s_is_course : Stmt := top 20
abbrev N_is_course : List Str := ["moves", "size", "course", "position", "tick"]
def t_is_course (K : PySem.W.Frag) (C : Cs) : TS :=
  (tSeq (tIfS (tTest (tOp rNe (tCB (rLenS K) (tCons (tVar 2) tNil)) (tCB (rLenS K) (tCons (tVar 0) tNil)))) (tRet (tC (.bl false))) tNext)
    (tSeq (tFor (iList K (tVar 2)) (gName 3) (tIfS (tOr (tTest (tOp (rI0 fun i j => .bl (decide (i < j))) (tVar 3) (tC (.int 0)))) (tTest (tOp (rI0 fun i j => .bl (decide (j ≤ i))) (tVar 3) (tVar 1)))) (tRet (tC (.bl false))) tNext))
    (tSeq (tFor (iRng2 (tCons (tC (.int 1)) (tCons (tCB (rLenS K) (tCons (tVar 0) tNil)) tNil))) (gName 4) (tIfS (tNot (tB (tCall (sp_goes K C) [] E0 (tCons (tOp (rIxL K) (tVar 0) (tVar 4)) (tCons (tOp (rIxL K) (tVar 2) (tOp (rI0 fun i j => .int (i - j)) (tVar 4) (tC (.int 1)))) (tCons (tOp (rIxL K) (tVar 2) (tVar 4)) tNil)))))) (tRet (tC (.bl false))) tNext))
    (tRet (tC (.bl true))))))
abbrev s_within : Stmt := top 21
abbrev N_within : List Str := ["course", "allowed", "position", "here"]
def t_within (K : PySem.W.Frag) (C : Cs) : TS :=
  (tSeq (tFor (iZip K (tCons (tVar 0) (tCons (tVar 1) tNil))) (gTup K 2 (gCons (gName 2) (gCons (gName 3) gNil))) (tIfS (tTest (tOp (rIn K true) (tVar 2) (tVar 3))) (tRet (tC (.bl false))) tNext))
    (tRet (tC (.bl true))))
abbrev s_is_fault : Stmt := top 26
abbrev N_is_fault : List Str := ["number"]
def t_is_fault (K : PySem.W.Frag) (C : Cs) : TS :=
  (tRet (tOrV (tChain (rI0 fun i j => .bl (decide (i ≤ j))) (rI0 fun i j => .bl (decide (i ≤ j))) (tC (.int 0)) (tVar 0) (tC (.int 3))) (tChain (rI0 fun i j => .bl (decide (i ≤ j))) (rI0 fun i j => .bl (decide (i ≤ j))) (tC (.int (100))) (tVar 0) (tOp (rI0 fun i j => .int (i + j)) (tC (.int (100))) (tC (.int (24)))))))
abbrev s_readings_from : Stmt := top 27
abbrev N_readings_from : List Str := ["sensor", "tick", "reading"]
def t_readings_from (K : PySem.W.Frag) (C : Cs) : TS :=
  (tRet (tLc (iList K (tSl (rSlL K) (tFld K (tVar 0) "readings") (tPart (tVar 1)) tNoPart)) (gName 2) (tTest (tOp rNe (tVar 2) (tC (.int (-1))))) (tVar 2) [2]))
abbrev s_can_stick : Stmt := top 28
abbrev N_can_stick : List Str := ["sensor", "tick", "numbers", "number"]
def t_can_stick (K : PySem.W.Frag) (C : Cs) : TS :=
  (tSeq (tAsg (tCall (sp_readings_from K C) [] E0 (tCons (tVar 0) (tCons (tVar 1) tNil))) (gName 2))
    (tSeq (tFor (iList K (tVar 2)) (gName 3) (tIfS (tTest (tOp rNe (tVar 3) (tOp (rIxL K) (tVar 2) (tC (.int 0))))) (tRet (tC (.bl false))) tNext))
    (tRet (tC (.bl true)))))
abbrev s_stuck_ticks : Stmt := top 29
abbrev N_stuck_ticks : List Str := ["sensor", "now", "tick"]
def t_stuck_ticks (K : PySem.W.Frag) (C : Cs) : TS :=
  (tRet (tLc (iRng2 (tCons (tFld K (tVar 0) "first") (tCons (tOp (rI0 fun i j => .int (i + j)) (tVar 1) (tC (.int 1))) tNil))) (gName 2) (tB (tCall (sp_can_stick K C) [] E0 (tCons (tVar 0) (tCons (tVar 2) tNil)))) (tVar 2) [2]))
abbrev s_options : Stmt := top 30
abbrev N_options : List Str := ["sensor", "now", "ticks"]
def t_options (K : PySem.W.Frag) (C : Cs) : TS :=
  (tSeq (tAsg (tCall (sp_stuck_ticks K C) [] E0 (tCons (tVar 0) (tCons (tVar 1) tNil))) (gName 2))
    (tSeq (tIfS (tTest (tOp rEq (tCB (rLenS K) (tCons (tVar 2) tNil)) (tC (.int 0)))) (tRet (tLst (tCons (tC (.int 0)) (tCons (tC (.int 1)) (tCons (tC (.int 2)) (tCons (tC (.int 3)) tNil)))))) tNext)
    (tRet (tLst (tCons (tC (.int 0)) (tCons (tOp (rI0 fun i j => .int (i + j)) (tC (.int (100))) (tOp (rIxL K) (tVar 2) (tC (.int 0)))) (tCons (tC (.int 1)) (tCons (tC (.int 2)) (tCons (tC (.int 3)) tNil)))))))))
abbrev s_may_have : Stmt := top 31
abbrev N_may_have : List Str := ["sensor", "fault", "now", "tick"]
def t_may_have (K : PySem.W.Frag) (C : Cs) : TS :=
  (tSeq (tIfS (tTest (tOp (rI0 fun i j => .bl (decide (i < j))) (tVar 1) (tC (.int (100))))) (tRet (tC (.bl true))) tNext)
    (tSeq (tAsg (tOp (rI0 fun i j => .int (i - j)) (tVar 1) (tC (.int (100)))) (gName 3))
    (tRet (tAndV (tChain (rI0 fun i j => .bl (decide (i ≤ j))) (rI0 fun i j => .bl (decide (i ≤ j))) (tFld K (tVar 0) "first") (tVar 3) (tVar 2)) (tCall (sp_can_stick K C) [] E0 (tCons (tVar 0) (tCons (tVar 3) tNil)))))))
abbrev s_reading_about : Stmt := top 32
abbrev N_reading_about : List Str := ["sensor", "fault", "tick", "now"]
def t_reading_about (K : PySem.W.Frag) (C : Cs) : TS :=
  (tSeq (tIfS (tTest (tOp (rI0 fun i j => .bl (decide (i < j))) (tVar 2) (tFld K (tVar 0) "first"))) (tRet (tC (.int (-1)))) tNext)
    (tSeq (tIfS (tTest (tOp (rI0 fun i j => .bl (decide (j ≤ i))) (tVar 1) (tC (.int (100))))) (tRet (tIf (tTest (tOp (rI0 fun i j => .bl (decide (i < j))) (tVar 2) (tOp (rI0 fun i j => .int (i - j)) (tVar 1) (tC (.int (100)))))) (tOp (rIxL K) (tFld K (tVar 0) "readings") (tVar 2)) (tC (.int (-1))))) tNext)
    (tSeq (tIfS (tTest (tOp (rI0 fun i j => .bl (decide (j < i))) (tOp (rI0 fun i j => .int (i + j)) (tVar 2) (tVar 1)) (tVar 3))) (tRet (tC (.int (-1)))) tNext)
    (tRet (tOp (rIxL K) (tFld K (tVar 0) "readings") (tOp (rI0 fun i j => .int (i + j)) (tVar 2) (tVar 1)))))))
abbrev s_agrees : Stmt := top 33
abbrev N_agrees : List Str := ["sensor", "reading", "position"]
def t_agrees (K : PySem.W.Frag) (C : Cs) : TS :=
  (tRet (tOrV (tOp rEq (tVar 1) (tC (.int (-1)))) (tOp (rI0 fun i j => .bl (decide (i ≤ j))) (tCB rAbs (tCons (tOp (rI0 fun i j => .int (i - j)) (tVar 1) (tVar 2)) tNil)) (tFld K (tVar 0) "error"))))
abbrev s_sight : Stmt := top 34
abbrev N_sight : List Str := ["sensor", "fault", "size", "now", "rows", "tick", "reading", "position"]
def t_sight (K : PySem.W.Frag) (C : Cs) : TS :=
  (tSeq (tAsg (tLst tNil) (gName 4))
    (tSeq (tFor (iRng1 (tCons (tOp (rI0 fun i j => .int (i + j)) (tVar 3) (tC (.int 1))) tNil)) (gName 5) (tSeq (tAsg (tCall (sp_reading_about K C) [] E0 (tCons (tVar 0) (tCons (tVar 1) (tCons (tVar 5) (tCons (tVar 3) tNil))))) (gName 6))
    (tDrop (tBM K "list" rAppend (tVar 4) (tCons (tLc (iRng1 (tCons (tVar 2) tNil)) (gName 7) (tB (tCall (sp_agrees K C) [] E0 (tCons (tVar 0) (tCons (tVar 6) (tCons (tVar 7) tNil))))) (tVar 7) [7]) tNil)))))
    (tRet (tVar 4))))
abbrev s_whole : Stmt := top 35
abbrev N_whole : List Str := ["size", "now", "tick"]
def t_whole (K : PySem.W.Frag) (C : Cs) : TS :=
  (tRet (tLc (iRng1 (tCons (tOp (rI0 fun i j => .int (i + j)) (tVar 1) (tC (.int 1))) tNil)) (gName 2) tYes (tLstRg (tRg1 (tVar 0))) [2]))
abbrev s_overlap : Stmt := top 36
abbrev N_overlap : List Str := ["one", "two", "rows", "here", "there", "position"]
def t_overlap (K : PySem.W.Frag) (C : Cs) : TS :=
  (tSeq (tAsg (tLst tNil) (gName 2))
    (tSeq (tFor (iZip K (tCons (tVar 0) (tCons (tVar 1) tNil))) (gTup K 2 (gCons (gName 3) (gCons (gName 4) gNil))) (tDrop (tBM K "list" rAppend (tVar 2) (tCons (tLc (iList K (tVar 3)) (gName 5) (tTest (tOp (rIn K false) (tVar 5) (tVar 4))) (tVar 5) [5]) tNil))))
    (tRet (tVar 2))))
abbrev s_count_faults : Stmt := top 39
abbrev N_count_faults : List Str := ["faults", "fault"]
def t_count_faults (K : PySem.W.Frag) (C : Cs) : TS :=
  (tRet (tCB (rLenS K) (tCons (tLc (iList K (tVar 0)) (gName 1) (tTest (tOp rNe (tVar 1) (tC (.int 0)))) (tVar 1) [1]) tNil)))
abbrev s_widened : Stmt := top 40
abbrev N_widened : List Str := ["parts", "sensor", "size", "now", "most", "sights", "wider", "faults", "allowed", "fault", "rows", "longer"]
def t_widened (K : PySem.W.Frag) (C : Cs) : TS :=
  (tSeq (tAsg (tLc (iList K (tCall (sp_options K C) [] E0 (tCons (tVar 1) (tCons (tVar 3) tNil)))) (gName 9) tYes (tTup (tCons (tVar 9) (tCons (tCall (sp_sight K C) [] E0 (tCons (tVar 1) (tCons (tVar 9) (tCons (tVar 2) (tCons (tVar 3) tNil))))) tNil))) [9]) (gName 5))
    (tSeq (tAsg (tLst tNil) (gName 6))
    (tSeq (tFor (iList K (tVar 0)) (gTup K 2 (gCons (gName 7) (gCons (gName 8) gNil))) (tFor (iList K (tVar 5)) (gTup K 2 (gCons (gName 9) (gCons (gName 10) gNil))) (tSeq (tAsg (tOp rCat (tVar 7) (tLst (tCons (tVar 9) tNil))) (gName 11))
    (tIfS (tTest (tOp (rI0 fun i j => .bl (decide (i ≤ j))) (tCall (sp_count_faults K C) [] E0 (tCons (tVar 11) tNil)) (tVar 4))) (tDrop (tBM K "list" rAppend (tVar 6) (tCons (tTup (tCons (tVar 11) (tCons (tCall (sp_overlap K C) [] E0 (tCons (tVar 8) (tCons (tVar 10) tNil))) tNil))) tNil))) tNext))))
    (tRet (tVar 6)))))
abbrev s_possible : Stmt := top 41
abbrev N_possible : List Str := ["room", "prop", "size", "parts", "sensor", "moves", "part"]
def t_possible (K : PySem.W.Frag) (C : Cs) : TS :=
  (tSeq (tAsg (tFld K (tOp (rIxL K) (tFld K (tVar 0) "props") (tVar 1)) "size") (gName 2))
    (tSeq (tAsg (tLst (tCons (tTup (tCons (tLst tNil) (tCons (tCall (sp_whole K C) [] E0 (tCons (tVar 2) (tCons (tFld K (tVar 0) "now") tNil))) tNil))) tNil)) (gName 3))
    (tSeq (tFor (iList K (tCall (sp_sensors_of K C) [] E0 (tCons (tVar 0) (tCons (tVar 1) tNil)))) (gName 4) (tAsg (tCall (sp_widened K C) [] E0 (tCons (tVar 3) (tCons (tVar 4) (tCons (tVar 2) (tCons (tFld K (tVar 0) "now") (tCons (tFld K (tVar 0) "most") tNil)))))) (gName 3)))
    (tSeq (tAsg (tFld K (tOp (rIxL K) (tFld K (tVar 0) "props") (tVar 1)) "moves") (gName 5))
    (tRet (tLc (iList K (tVar 3)) (gName 6) (tB (tCall (sp_exists K C) [] E0 (tCons (tVar 5) (tCons (tOp (rIxT K) (tVar 6) (tC (.int 1))) tNil)))) (tVar 6) [6]))))))
abbrev s_all_possible : Stmt := top 42
abbrev N_all_possible : List Str := ["room", "prop"]
def t_all_possible (K : PySem.W.Frag) (C : Cs) : TS :=
  (tRet (tLc (iRng1 (tCons (tCB (rLenS K) (tCons (tFld K (tVar 0) "props") tNil)) tNil)) (gName 1) tYes (tCall (sp_possible K C) [] E0 (tCons (tVar 0) (tCons (tVar 1) tNil))) [1]))
abbrev s_fewest_of : Stmt := top 43
abbrev N_fewest_of : List Str := ["rows", "faults", "allowed"]
def t_fewest_of (K : PySem.W.Frag) (C : Cs) : TS :=
  (tSeq (tIfS (tTest (tOp rEq (tCB (rLenS K) (tCons (tVar 0) tNil)) (tC (.int 0)))) (tRet (tC (.int (-1)))) tNext)
    (tRet (tCB (rMin K) (tCons (tLc (iList K (tVar 0)) (gTup K 2 (gCons (gName 1) (gCons (gName 2) gNil))) tYes (tCall (sp_count_faults K C) [] E0 (tCons (tVar 1) tNil)) [1, 2]) tNil))))
abbrev s_fewest_each : Stmt := top 44
abbrev N_fewest_each : List Str := ["table", "rows"]
def t_fewest_each (K : PySem.W.Frag) (C : Cs) : TS :=
  (tRet (tLc (iList K (tVar 0)) (gName 1) tYes (tCall (sp_fewest_of K C) [] E0 (tCons (tVar 1) tNil)) [1]))
abbrev s_something : Stmt := top 45
abbrev N_something : List Str := ["few", "most"]
def t_something (K : PySem.W.Frag) (C : Cs) : TS :=
  (tRet (tAndV (tOp (rIn K true) (tC (.int (-1))) (tVar 0)) (tOp (rI0 fun i j => .bl (decide (i ≤ j))) (tCB (rSum K) (tCons (tVar 0) tNil)) (tVar 1))))
abbrev s_can_be : Stmt := top 46
abbrev N_can_be : List Str := ["room"]
def t_can_be (K : PySem.W.Frag) (C : Cs) : TS :=
  (tRet (tCall (sp_something K C) [] E0 (tCons (tCall (sp_fewest_each K C) [] E0 (tCons (tCall (sp_all_possible K C) [] E0 (tCons (tVar 0) tNil)) tNil)) (tCons (tFld K (tVar 0) "most") tNil))))
abbrev s_at_most : Stmt := top 47
abbrev N_at_most : List Str := ["rows", "limit", "way"]
def t_at_most (K : PySem.W.Frag) (C : Cs) : TS :=
  (tRet (tLc (iList K (tVar 0)) (gName 2) (tTest (tOp (rI0 fun i j => .bl (decide (i ≤ j))) (tCall (sp_count_faults K C) [] E0 (tCons (tOp (rIxT K) (tVar 2) (tC (.int 0))) tNil)) (tVar 1))) (tVar 2) [2]))
abbrev s_all_left : Stmt := top 48
abbrev N_all_left : List Str := ["room", "table", "few", "total", "rows", "own"]
def t_all_left (K : PySem.W.Frag) (C : Cs) : TS :=
  (tSeq (tAsg (tCall (sp_all_possible K C) [] E0 (tCons (tVar 0) tNil)) (gName 1))
    (tSeq (tAsg (tCall (sp_fewest_each K C) [] E0 (tCons (tVar 1) tNil)) (gName 2))
    (tSeq (tIfS (tNot (tB (tCall (sp_something K C) [] E0 (tCons (tVar 2) (tCons (tFld K (tVar 0) "most") tNil))))) (tRet (tLc (iList K (tVar 1)) (gName 4) tYes (tLst tNil) [4])) tNext)
    (tSeq (tAsg (tCB (rSum K) (tCons (tVar 2) tNil)) (gName 3))
    (tRet (tLc (iZip K (tCons (tVar 1) (tCons (tVar 2) tNil))) (gTup K 2 (gCons (gName 4) (gCons (gName 5) gNil))) tYes (tCall (sp_at_most K C) [] E0 (tCons (tVar 4) (tCons (tOp (rI0 fun i j => .int (i - j)) (tFld K (tVar 0) "most") (tOp (rI0 fun i j => .int (i - j)) (tVar 3) (tVar 5))) tNil))) [4, 5]))))))
abbrev s_left_of : Stmt := top 49
abbrev N_left_of : List Str := ["room", "prop"]
def t_left_of (K : PySem.W.Frag) (C : Cs) : TS :=
  (tRet (tOp (rIxL K) (tCall (sp_all_left K C) [] E0 (tCons (tVar 0) tNil)) (tVar 1)))
abbrev s_moves_are_right : Stmt := top 59
abbrev N_moves_are_right : List Str := ["room", "moves", "prop", "move"]
def t_moves_are_right (K : PySem.W.Frag) (C : Cs) : TS :=
  (tSeq (tIfS (tTest (tOp rNe (tCB (rLenS K) (tCons (tVar 1) tNil)) (tCB (rLenS K) (tCons (tFld K (tVar 0) "props") tNil)))) (tRet (tC (.bl false))) tNext)
    (tSeq (tFor (iZip K (tCons (tFld K (tVar 0) "props") (tCons (tVar 1) tNil))) (gTup K 2 (gCons (gName 2) (gCons (gName 3) gNil))) (tIfS (tNot (tTest (tChain (rI0 fun i j => .bl (decide (i ≤ j))) (rI0 fun i j => .bl (decide (i < j))) (tUn (rU fun i => .int (-i)) (tC (.int 2))) (tVar 3) (tFld K (tVar 2) "size")))) (tRet (tC (.bl false))) tNext))
    (tRet (tC (.bl true)))))
abbrev s_readings_are_right : Stmt := top 60
abbrev N_readings_are_right : List Str := ["room", "readings", "reading"]
def t_readings_are_right (K : PySem.W.Frag) (C : Cs) : TS :=
  (tSeq (tIfS (tTest (tOp rNe (tCB (rLenS K) (tCons (tVar 1) tNil)) (tCB (rLenS K) (tCons (tFld K (tVar 0) "sensors") tNil)))) (tRet (tC (.bl false))) tNext)
    (tSeq (tFor (iList K (tVar 1)) (gName 2) (tIfS (tNot (tTest (tChain (rI0 fun i j => .bl (decide (i ≤ j))) (rI0 fun i j => .bl (decide (i ≤ j))) (tUn (rU fun i => .int (-i)) (tC (.int 1))) (tVar 2) (tC (.int 1000))))) (tRet (tC (.bl false))) tNext))
    (tRet (tC (.bl true)))))
abbrev s_stands : Stmt := top 65
abbrev N_stands : List Str := ["rows", "position", "row"]
def t_stands (K : PySem.W.Frag) (C : Cs) : TS :=
  (tSeq (tFor (iList K (tVar 0)) (gName 2) (tIfS (tTest (tOp (rIn K false) (tVar 1) (tVar 2))) (tRet (tC (.bl true))) tNext))
    (tRet (tC (.bl false))))
abbrev s_say_where : Stmt := top 66
abbrev N_say_where : List Str := ["room", "prop", "tick", "moves", "rows", "faults", "allowed", "position"]
def t_say_where (K : PySem.W.Frag) (C : Cs) : TS :=
  (tSeq (tIfS (tOr (tNot (tB (tCall (sp_is_prop K C) [] E0 (tCons (tVar 0) (tCons (tVar 1) tNil))))) (tNot (tTest (tChain (rI0 fun i j => .bl (decide (i ≤ j))) (rI0 fun i j => .bl (decide (i ≤ j))) (tC (.int 0)) (tVar 2) (tFld K (tVar 0) "now"))))) (tRet (tLst (tCons (tUn (rU fun i => .int (-i)) (tC (.int 1))) tNil))) tNext)
    (tSeq (tIfS (tNot (tB (tFld K (tVar 0) "begun"))) (tRet (tLst (tCons (tUn (rU fun i => .int (-i)) (tC (.int 3))) tNil))) tNext)
    (tSeq (tAsg (tFld K (tOp (rIxL K) (tFld K (tVar 0) "props") (tVar 1)) "moves") (gName 3))
    (tSeq (tAsg (tLc (iList K (tCall (sp_left_of K C) [] E0 (tCons (tVar 0) (tCons (tVar 1) tNil)))) (gTup K 2 (gCons (gName 5) (gCons (gName 6) gNil))) tYes (tOp (rIxL K) (tCall (sp_seats K C) [] E0 (tCons (tVar 3) (tCons (tVar 6) tNil))) (tVar 2)) [5, 6]) (gName 4))
    (tRet (tOp rCat (tLst (tCons (tC (.int 0)) tNil)) (tLc (iRng1 (tCons (tFld K (tOp (rIxL K) (tFld K (tVar 0) "props") (tVar 1)) "size") tNil)) (gName 7) (tB (tCall (sp_stands K C) [] E0 (tCons (tVar 4) (tCons (tVar 7) tNil)))) (tVar 7) [7])))))))
abbrev s_say_fewest : Stmt := top 67
abbrev N_say_fewest : List Str := ["room", "few"]
def t_say_fewest (K : PySem.W.Frag) (C : Cs) : TS :=
  (tSeq (tIfS (tNot (tB (tFld K (tVar 0) "begun"))) (tRet (tLst (tCons (tUn (rU fun i => .int (-i)) (tC (.int 3))) tNil))) tNext)
    (tSeq (tAsg (tCall (sp_fewest_each K C) [] E0 (tCons (tCall (sp_all_possible K C) [] E0 (tCons (tVar 0) tNil)) tNil)) (gName 1))
    (tSeq (tIfS (tNot (tB (tCall (sp_something K C) [] E0 (tCons (tVar 1) (tCons (tFld K (tVar 0) "most") tNil))))) (tRet (tLst (tCons (tUn (rU fun i => .int (-i)) (tC (.int 4))) tNil))) tNext)
    (tRet (tOp rCat (tLst (tCons (tC (.int 0)) (tCons (tCB (rSum K) (tCons (tVar 1) tNil)) tNil))) (tVar 1))))))
abbrev s_say_explain : Stmt := top 68
abbrev N_say_explain : List Str := ["room", "prop", "ways", "faults", "allowed"]
def t_say_explain (K : PySem.W.Frag) (C : Cs) : TS :=
  (tSeq (tIfS (tNot (tB (tCall (sp_is_prop K C) [] E0 (tCons (tVar 0) (tCons (tVar 1) tNil))))) (tRet (tLst (tCons (tUn (rU fun i => .int (-i)) (tC (.int 1))) tNil))) tNext)
    (tSeq (tIfS (tNot (tB (tFld K (tVar 0) "begun"))) (tRet (tLst (tCons (tUn (rU fun i => .int (-i)) (tC (.int 3))) tNil))) tNext)
    (tSeq (tAsg (tCall (sp_left_of K C) [] E0 (tCons (tVar 0) (tCons (tVar 1) tNil))) (gName 2))
    (tSeq (tIfS (tTest (tOp rEq (tCB (rLenS K) (tCons (tVar 2) tNil)) (tC (.int 0)))) (tRet (tLst (tCons (tUn (rU fun i => .int (-i)) (tC (.int 4))) tNil))) tNext)
    (tSeq (tAsg (tOp (rIxL K) (tCall (sp_at_most K C) [] E0 (tCons (tVar 2) (tCons (tCall (sp_fewest_of K C) [] E0 (tCons (tVar 2) tNil)) tNil))) (tC (.int 0))) (gTup K 2 (gCons (gName 3) (gCons (gName 4) gNil))))
    (tRet (tOp rCat (tOp rCat (tLst (tCons (tC (.int 0)) tNil)) (tVar 3)) (tCall (sp_least_course K C) [] E0 (tCons (tFld K (tOp (rIxL K) (tFld K (tVar 0) "props") (tVar 1)) "moves") (tCons (tVar 4) tNil))))))))))
abbrev s_explains : Stmt := top 69
abbrev N_explains : List Str := ["room", "prop", "faults", "course", "sensors", "size", "sensor", "fault"]
def t_explains (K : PySem.W.Frag) (C : Cs) : TS :=
  (tSeq (tAsg (tCall (sp_sensors_of K C) [] E0 (tCons (tVar 0) (tCons (tVar 1) tNil))) (gName 4))
    (tSeq (tAsg (tFld K (tOp (rIxL K) (tFld K (tVar 0) "props") (tVar 1)) "size") (gName 5))
    (tSeq (tIfS (tOr (tTest (tOp rNe (tCB (rLenS K) (tCons (tVar 2) tNil)) (tCB (rLenS K) (tCons (tVar 4) tNil)))) (tNot (tB (tCall (sp_is_course K C) [] E0 (tCons (tFld K (tOp (rIxL K) (tFld K (tVar 0) "props") (tVar 1)) "moves") (tCons (tVar 5) (tCons (tVar 3) tNil))))))) (tRet (tC (.bl false))) tNext)
    (tSeq (tFor (iZip K (tCons (tVar 4) (tCons (tVar 2) tNil))) (gTup K 2 (gCons (gName 6) (gCons (gName 7) gNil))) (tSeq (tIfS (tNot (tB (tCall (sp_may_have K C) [] E0 (tCons (tVar 6) (tCons (tVar 7) (tCons (tFld K (tVar 0) "now") tNil)))))) (tRet (tC (.bl false))) tNext)
    (tIfS (tNot (tB (tCall (sp_within K C) [] E0 (tCons (tVar 3) (tCons (tCall (sp_sight K C) [] E0 (tCons (tVar 6) (tCons (tVar 7) (tCons (tVar 5) (tCons (tFld K (tVar 0) "now") tNil))))) tNil))))) (tRet (tC (.bl false))) tNext)))
    (tRet (tC (.bl true)))))))
abbrev s_say_check : Stmt := top 70
abbrev N_say_check : List Str := ["room", "prop", "faults", "course", "fault", "position"]
def t_say_check (K : PySem.W.Frag) (C : Cs) : TS :=
  (tSeq (tIfS (tNot (tB (tCall (sp_is_prop K C) [] E0 (tCons (tVar 0) (tCons (tVar 1) tNil))))) (tRet (tLst (tCons (tUn (rU fun i => .int (-i)) (tC (.int 1))) tNil))) tNext)
    (tSeq (tIfS (tOr (tNot (tB (tCB (rAll K) (tCons (tLc (iList K (tVar 2)) (gName 4) tYes (tCall (sp_is_fault K C) [] E0 (tCons (tVar 4) tNil)) [4]) tNil)))) (tNot (tB (tCB (rAll K) (tCons (tLc (iList K (tVar 3)) (gName 5) tYes (tChain (rI0 fun i j => .bl (decide (i ≤ j))) (rI0 fun i j => .bl (decide (i ≤ j))) (tC (.int 0)) (tVar 5) (tC (.int 7))) [5]) tNil))))) (tRet (tLst (tCons (tUn (rU fun i => .int (-i)) (tC (.int 1))) tNil))) tNext)
    (tSeq (tIfS (tNot (tB (tFld K (tVar 0) "begun"))) (tRet (tLst (tCons (tUn (rU fun i => .int (-i)) (tC (.int 3))) tNil))) tNext)
    (tRet (tLst (tCons (tC (.int 0)) (tCons (tIf (tB (tCall (sp_explains K C) [] E0 (tCons (tVar 0) (tCons (tVar 1) (tCons (tVar 2) (tCons (tVar 3) tNil)))))) (tC (.int 1)) (tC (.int 0))) (tCons (tCall (sp_count_faults K C) [] E0 (tCons (tVar 2) tNil)) tNil))))))))
abbrev s_say_vote : Stmt := top 71
abbrev N_say_vote : List Str := ["room", "prop", "now", "numbers", "middle", "sensor", "reading"]
def t_say_vote (K : PySem.W.Frag) (C : Cs) : TS :=
  (tSeq (tIfS (tNot (tB (tCall (sp_is_prop K C) [] E0 (tCons (tVar 0) (tCons (tVar 1) tNil))))) (tRet (tLst (tCons (tUn (rU fun i => .int (-i)) (tC (.int 1))) tNil))) tNext)
    (tSeq (tIfS (tNot (tB (tFld K (tVar 0) "begun"))) (tRet (tLst (tCons (tUn (rU fun i => .int (-i)) (tC (.int 3))) tNil))) tNext)
    (tSeq (tAsg (tLc (iList K (tCall (sp_sensors_of K C) [] E0 (tCons (tVar 0) (tCons (tVar 1) tNil)))) (gName 5) tYes (tOp (rIxL K) (tFld K (tVar 5) "readings") (tFld K (tVar 0) "now")) [5]) (gName 2))
    (tSeq (tAsg (tCB (rSorted K) (tCons (tLc (iList K (tVar 2)) (gName 6) (tTest (tOp (rI0 fun i j => .bl (decide (j ≤ i))) (tVar 6) (tC (.int 0)))) (tVar 6) [6]) tNil)) (gName 3))
    (tSeq (tIfS (tTest (tOp rEq (tCB (rLenS K) (tCons (tVar 3) tNil)) (tC (.int 0)))) (tRet (tLst (tCons (tUn (rU fun i => .int (-i)) (tC (.int 4))) tNil))) tNext)
    (tSeq (tAsg (tOp (rIxL K) (tVar 3) (tOp (L2.rI CDiv fun i j => .int (i / j)) (tOp (rI0 fun i j => .int (i - j)) (tCB (rLenS K) (tCons (tVar 3) tNil)) (tC (.int 1))) (tC (.int 2)))) (gName 4))
    (tRet (tLst (tCons (tC (.int 0)) (tCons (tVar 4) (tCons (tCB (rLenS K) (tCons (tVar 3) tNil)) (tCons (tBM K "list" (rCntI K) (tVar 3) (tCons (tVar 4) tNil)) tNil))))))))))))
abbrev s_say_state : Stmt := top 72
abbrev N_say_state : List Str := ["room"]
def t_say_state (K : PySem.W.Frag) (C : Cs) : TS :=
  (tRet (tLst (tCons (tC (.int 0)) (tCons (tCB (rLenS K) (tCons (tFld K (tVar 0) "props") tNil)) (tCons (tCB (rLenS K) (tCons (tFld K (tVar 0) "sensors") tNil)) (tCons (tIf (tB (tFld K (tVar 0) "begun")) (tC (.int 1)) (tC (.int 0))) (tCons (tFld K (tVar 0) "now") (tCons (tFld K (tVar 0) "most") tNil))))))))
abbrev s_say_ways : Stmt := top 73
abbrev N_say_ways : List Str := ["room", "prop", "ways", "answer", "faults", "allowed"]
def t_say_ways (K : PySem.W.Frag) (C : Cs) : TS :=
  (tSeq (tIfS (tNot (tB (tCall (sp_is_prop K C) [] E0 (tCons (tVar 0) (tCons (tVar 1) tNil))))) (tRet (tLst (tCons (tUn (rU fun i => .int (-i)) (tC (.int 1))) tNil))) tNext)
    (tSeq (tIfS (tNot (tB (tFld K (tVar 0) "begun"))) (tRet (tLst (tCons (tUn (rU fun i => .int (-i)) (tC (.int 3))) tNil))) tNext)
    (tSeq (tAsg (tCall (sp_left_of K C) [] E0 (tCons (tVar 0) (tCons (tVar 1) tNil))) (gName 2))
    (tSeq (tAsg (tLst (tCons (tC (.int 0)) (tCons (tCB (rLenS K) (tCons (tVar 2) tNil)) tNil))) (gName 3))
    (tSeq (tFor (iList K (tVar 2)) (gTup K 2 (gCons (gName 4) (gCons (gName 5) gNil))) (tDrop (tBM K "list" rExtend (tVar 3) (tCons (tVar 4) tNil))))
    (tRet (tVar 3)))))))
abbrev s_around : Stmt := top 76
abbrev N_around : List Str := ["sensor", "position"]
def t_around (K : PySem.W.Frag) (C : Cs) : TS :=
  (tRet (tTup (tCons (tCB rMax2 (tCons (tC (.int 0)) (tCons (tOp (rI0 fun i j => .int (i - j)) (tVar 1) (tFld K (tVar 0) "error")) tNil))) (tCons (tOp (rI0 fun i j => .int (i + j)) (tVar 1) (tFld K (tVar 0) "error")) tNil))))
abbrev s_stuck_reads : Stmt := top 77
abbrev N_stuck_reads : List Str := ["sensor", "tick", "numbers"]
def t_stuck_reads (K : PySem.W.Frag) (C : Cs) : TS :=
  (tSeq (tAsg (tCall (sp_readings_from K C) [] E0 (tCons (tVar 0) (tCons (tVar 1) tNil))) (gName 2))
    (tSeq (tIfS (tTest (tOp rEq (tCB (rLenS K) (tCons (tVar 2) tNil)) (tC (.int 0)))) (tRet (tLst (tCons (tTup (tCons (tC (.int 0)) (tCons (tC (.int (1000))) tNil))) tNil))) tNext)
    (tRet (tLst (tCons (tTup (tCons (tOp (rIxL K) (tVar 2) (tC (.int 0))) (tCons (tOp (rIxL K) (tVar 2) (tC (.int 0))) tNil))) tNil)))))
abbrev s_may_read : Stmt := top 78
abbrev N_may_read : List Str := ["sensor", "fault", "been", "told", "turn", "now", "tick", "position"]
def t_may_read (K : PySem.W.Frag) (C : Cs) : TS :=
  (tSeq (tIfS (tTest (tOp (rI0 fun i j => .bl (decide (j ≤ i))) (tVar 1) (tC (.int (100))))) (tRet (tCall (sp_stuck_reads K C) [] E0 (tCons (tVar 0) (tCons (tOp (rI0 fun i j => .int (i - j)) (tVar 1) (tC (.int (100)))) tNil)))) tNext)
    (tSeq (tAsg (tOp (rI0 fun i j => .int (i - j)) (tOp (rI0 fun i j => .int (i + j)) (tOp (rI0 fun i j => .int (i + j)) (tVar 5) (tC (.int 1))) (tVar 4)) (tVar 1)) (gName 6))
    (tSeq (tIfS (tTest (tOp (rI0 fun i j => .bl (decide (j < i))) (tVar 6) (tVar 5))) (tRet (tLst (tCons (tCall (sp_around K C) [] E0 (tCons (tVar 0) (tCons (tOp (rIxL K) (tVar 3) (tOp (rI0 fun i j => .int (i - j)) (tOp (rI0 fun i j => .int (i - j)) (tVar 6) (tVar 5)) (tC (.int 1)))) tNil))) tNil))) tNext)
    (tSeq (tIfS (tTest (tOp (rI0 fun i j => .bl (decide (i < j))) (tVar 6) (tFld K (tVar 0) "first"))) (tRet (tLst (tCons (tTup (tCons (tC (.int 0)) (tCons (tC (.int (1000))) tNil))) tNil))) tNext)
    (tRet (tLc (iList K (tOp (rIxL K) (tVar 2) (tVar 6))) (gName 7) tYes (tCall (sp_around K C) [] E0 (tCons (tVar 0) (tCons (tVar 7) tNil))) [7]))))))
abbrev s_reads_ahead : Stmt := top 79
abbrev N_reads_ahead : List Str := ["sensors", "view", "told", "now", "faults", "been", "rows", "turn", "sensor", "fault"]
def t_reads_ahead (K : PySem.W.Frag) (C : Cs) : TS :=
  (tSeq (tAsg (tVar 1) (gTup K 2 (gCons (gName 4) (gCons (gName 5) gNil))))
    (tSeq (tAsg (tLst tNil) (gName 6))
    (tSeq (tFor (iRng1 (tCons (tCB (rLenS K) (tCons (tVar 2) tNil)) tNil)) (gName 7) (tFor (iZip K (tCons (tVar 0) (tCons (tVar 4) tNil))) (gTup K 2 (gCons (gName 8) (gCons (gName 9) gNil))) (tDrop (tBM K "list" rAppend (tVar 6) (tCons (tCall (sp_may_read K C) [] E0 (tCons (tVar 8) (tCons (tVar 9) (tCons (tVar 5) (tCons (tVar 2) (tCons (tVar 7) (tCons (tVar 3) tNil))))))) tNil)))))
    (tRet (tVar 6)))))
abbrev s_share : Stmt := top 80
abbrev N_share : List Str := ["one", "two", "least", "greatest", "low", "high"]
def t_share (K : PySem.W.Frag) (C : Cs) : TS :=
  (tSeq (tFor (iList K (tVar 0)) (gTup K 2 (gCons (gName 2) (gCons (gName 3) gNil))) (tFor (iList K (tVar 1)) (gTup K 2 (gCons (gName 4) (gCons (gName 5) gNil))) (tIfS (tAnd (tTest (tOp (rI0 fun i j => .bl (decide (i ≤ j))) (tVar 2) (tVar 5))) (tTest (tOp (rI0 fun i j => .bl (decide (i ≤ j))) (tVar 4) (tVar 3)))) (tRet (tC (.bl true))) tNext)))
    (tRet (tC (.bl false))))
abbrev s_alike : Stmt := top 81
abbrev N_alike : List Str := ["one", "two", "here", "there"]
def t_alike (K : PySem.W.Frag) (C : Cs) : TS :=
  (tSeq (tFor (iZip K (tCons (tVar 0) (tCons (tVar 1) tNil))) (gTup K 2 (gCons (gName 2) (gCons (gName 3) gNil))) (tIfS (tNot (tB (tCall (sp_share K C) [] E0 (tCons (tVar 2) (tCons (tVar 3) tNil))))) (tRet (tC (.bl false))) tNext))
    (tRet (tC (.bl true))))
abbrev s_none_alike : Stmt := top 82
abbrev N_none_alike : List Str := ["ones", "twos", "one", "two"]
def t_none_alike (K : PySem.W.Frag) (C : Cs) : TS :=
  (tSeq (tFor (iList K (tVar 0)) (gName 2) (tFor (iList K (tVar 1)) (gName 3) (tIfS (tB (tCall (sp_alike K C) [] E0 (tCons (tVar 2) (tCons (tVar 3) tNil)))) (tRet (tC (.bl false))) tNext)))
    (tRet (tC (.bl true))))
abbrev s_views_left : Stmt := top 83
abbrev N_views_left : List Str := ["room", "prop", "moves", "faults", "allowed"]
def t_views_left (K : PySem.W.Frag) (C : Cs) : TS :=
  (tSeq (tAsg (tFld K (tOp (rIxL K) (tFld K (tVar 0) "props") (tVar 1)) "moves") (gName 2))
    (tRet (tLc (iList K (tCall (sp_left_of K C) [] E0 (tCons (tVar 0) (tCons (tVar 1) tNil)))) (gTup K 2 (gCons (gName 3) (gCons (gName 4) gNil))) tYes (tTup (tCons (tVar 3) (tCons (tCall (sp_seats K C) [] E0 (tCons (tVar 2) (tCons (tVar 4) tNil))) tNil))) [3, 4])))
abbrev s_told_settle : Stmt := top 84
abbrev N_told_settle : List Str := ["sensors", "place", "views", "told", "now", "fine", "faulty", "view"]
def t_told_settle (K : PySem.W.Frag) (C : Cs) : TS :=
  (tSeq (tAsg (tLc (iList K (tVar 2)) (gName 7) (tTest (tOp rEq (tOp (rIxL K) (tOp (rIxT K) (tVar 7) (tC (.int 0))) (tVar 1)) (tC (.int 0)))) (tCall (sp_reads_ahead K C) [] E0 (tCons (tVar 0) (tCons (tVar 7) (tCons (tVar 3) (tCons (tVar 4) tNil))))) [7]) (gName 5))
    (tSeq (tAsg (tLc (iList K (tVar 2)) (gName 7) (tTest (tOp rNe (tOp (rIxL K) (tOp (rIxT K) (tVar 7) (tC (.int 0))) (tVar 1)) (tC (.int 0)))) (tCall (sp_reads_ahead K C) [] E0 (tCons (tVar 0) (tCons (tVar 7) (tCons (tVar 3) (tCons (tVar 4) tNil))))) [7]) (gName 6))
    (tRet (tCall (sp_none_alike K C) [] E0 (tCons (tVar 5) (tCons (tVar 6) tNil))))))
abbrev s_longer_rows : Stmt := top 85
abbrev N_longer_rows : List Str := ["rows", "size", "longer", "row", "position"]
def t_longer_rows (K : PySem.W.Frag) (C : Cs) : TS :=
  (tSeq (tAsg (tLst tNil) (gName 2))
    (tSeq (tFor (iList K (tVar 0)) (gName 3) (tFor (iRng1 (tCons (tVar 1) tNil)) (gName 4) (tDrop (tBM K "list" rAppend (tVar 2) (tCons (tOp rCat (tVar 3) (tLst (tCons (tVar 4) tNil))) tNil)))))
    (tRet (tVar 2))))
abbrev s_candidates : Stmt := top 86
abbrev N_candidates : List Str := ["size", "many", "newest", "rows", "turn"]
def t_candidates (K : PySem.W.Frag) (C : Cs) : TS :=
  (tSeq (tAsg (tLst (tCons (tLst tNil) tNil)) (gName 2))
    (tSeq (tAsg (tLst (tCons (tLst tNil) tNil)) (gName 3))
    (tSeq (tFor (iRng1 (tCons (tVar 1) tNil)) (gName 4) (tSeq (tAsg (tCall (sp_longer_rows K C) [] E0 (tCons (tVar 2) (tCons (tVar 0) tNil))) (gName 2))
    (tAsg (tOp rCat (tVar 3) (tVar 2)) (gName 3))))
    (tRet (tVar 3)))))
abbrev s_settles_now : Stmt := top 87
abbrev N_settles_now : List Str := ["room", "number", "told", "prop", "views"]
def t_settles_now (K : PySem.W.Frag) (C : Cs) : TS :=
  (tSeq (tAsg (tFld K (tOp (rIxL K) (tFld K (tVar 0) "sensors") (tVar 1)) "prop") (gName 3))
    (tSeq (tAsg (tCall (sp_views_left K C) [] E0 (tCons (tVar 0) (tCons (tVar 3) tNil))) (gName 4))
    (tRet (tCall (sp_told_settle K C) [] E0 (tCons (tCall (sp_sensors_of K C) [] E0 (tCons (tVar 0) (tCons (tVar 3) tNil))) (tCons (tCall (sp_place_of K C) [] E0 (tCons (tVar 0) (tCons (tVar 1) tNil))) (tCons (tVar 4) (tCons (tVar 2) (tCons (tFld K (tVar 0) "now") tNil)))))))))
abbrev s_first_settling : Stmt := top 88
abbrev N_first_settling : List Str := ["room", "number", "many", "prop", "sensors", "place", "views", "told"]
def t_first_settling (K : PySem.W.Frag) (C : Cs) : TS :=
  (tSeq (tAsg (tFld K (tOp (rIxL K) (tFld K (tVar 0) "sensors") (tVar 1)) "prop") (gName 3))
    (tSeq (tAsg (tCall (sp_sensors_of K C) [] E0 (tCons (tVar 0) (tCons (tVar 3) tNil))) (gName 4))
    (tSeq (tAsg (tCall (sp_place_of K C) [] E0 (tCons (tVar 0) (tCons (tVar 1) tNil))) (gName 5))
    (tSeq (tAsg (tCall (sp_views_left K C) [] E0 (tCons (tVar 0) (tCons (tVar 3) tNil))) (gName 6))
    (tSeq (tFor (iList K (tCall (sp_candidates K C) [] E0 (tCons (tFld K (tOp (rIxL K) (tFld K (tVar 0) "props") (tVar 3)) "size") (tCons (tVar 2) tNil)))) (gName 7) (tIfS (tB (tCall (sp_told_settle K C) [] E0 (tCons (tVar 4) (tCons (tVar 5) (tCons (tVar 6) (tCons (tVar 7) (tCons (tFld K (tVar 0) "now") tNil))))))) (tRet (tOp rCat (tLst (tCons (tC (.int 1)) tNil)) (tVar 7))) tNext))
    (tRet (tLst (tCons (tC (.int 0)) tNil))))))))
abbrev s_place_in_five : Stmt := top 90
abbrev N_place_in_five : List Str := ["fault"]
def t_place_in_five (K : PySem.W.Frag) (C : Cs) : TS :=
  (tSeq (tIfS (tTest (tOp rEq (tVar 0) (tC (.int 0)))) (tRet (tC (.int 0))) tNext)
    (tSeq (tIfS (tTest (tOp (rI0 fun i j => .bl (decide (j ≤ i))) (tVar 0) (tC (.int (100))))) (tRet (tC (.int 1))) tNext)
    (tRet (tOp (rI0 fun i j => .int (i + j)) (tVar 0) (tC (.int 1))))))
abbrev s_say_blame : Stmt := top 91
abbrev N_say_blame : List Str := ["room", "number", "place", "found", "faults", "allowed", "five"]
def t_say_blame (K : PySem.W.Frag) (C : Cs) : TS :=
  (tSeq (tIfS (tNot (tB (tCall (sp_is_sensor K C) [] E0 (tCons (tVar 0) (tCons (tVar 1) tNil))))) (tRet (tLst (tCons (tUn (rU fun i => .int (-i)) (tC (.int 1))) tNil))) tNext)
    (tSeq (tIfS (tNot (tB (tFld K (tVar 0) "begun"))) (tRet (tLst (tCons (tUn (rU fun i => .int (-i)) (tC (.int 3))) tNil))) tNext)
    (tSeq (tAsg (tCall (sp_place_of K C) [] E0 (tCons (tVar 0) (tCons (tVar 1) tNil))) (gName 2))
    (tSeq (tAsg (tLc (iList K (tCall (sp_left_of K C) [] E0 (tCons (tVar 0) (tCons (tFld K (tOp (rIxL K) (tFld K (tVar 0) "sensors") (tVar 1)) "prop") tNil)))) (gTup K 2 (gCons (gName 4) (gCons (gName 5) gNil))) tYes (tCall (sp_place_in_five K C) [] E0 (tCons (tOp (rIxL K) (tVar 4) (tVar 2)) tNil)) [4, 5]) (gName 3))
    (tRet (tOp rCat (tLst (tCons (tC (.int 0)) tNil)) (tLc (iRng1 (tCons (tC (.int 5)) tNil)) (gName 6) tYes (tIf (tTest (tOp (rIn K false) (tVar 6) (tVar 3))) (tC (.int 1)) (tC (.int 0))) [6])))))))
abbrev s_goes_on : Stmt := top 92
abbrev N_goes_on : List Str := ["moves", "allowances", "rows", "allowed"]
def t_goes_on (K : PySem.W.Frag) (C : Cs) : TS :=
  (tSeq (tFor (iList K (tVar 1)) (gName 3) (tIfS (tB (tCall (sp_exists K C) [] E0 (tCons (tVar 0) (tCons (tCall (sp_overlap K C) [] E0 (tCons (tVar 3) (tCons (tVar 2) tNil))) tNil)))) (tRet (tC (.bl true))) tNext))
    (tRet (tC (.bl false))))
abbrev s_say_since : Stmt := top 93
abbrev N_say_since : List Str := ["room", "number", "sensor", "place", "prop", "allowances", "answer", "tick", "rows", "faults", "allowed"]
def t_say_since (K : PySem.W.Frag) (C : Cs) : TS :=
  (tSeq (tIfS (tNot (tB (tCall (sp_is_sensor K C) [] E0 (tCons (tVar 0) (tCons (tVar 1) tNil))))) (tRet (tLst (tCons (tUn (rU fun i => .int (-i)) (tC (.int 1))) tNil))) tNext)
    (tSeq (tIfS (tNot (tB (tFld K (tVar 0) "begun"))) (tRet (tLst (tCons (tUn (rU fun i => .int (-i)) (tC (.int 3))) tNil))) tNext)
    (tSeq (tAsg (tOp (rIxL K) (tFld K (tVar 0) "sensors") (tVar 1)) (gName 2))
    (tSeq (tAsg (tCall (sp_place_of K C) [] E0 (tCons (tVar 0) (tCons (tVar 1) tNil))) (gName 3))
    (tSeq (tAsg (tOp (rIxL K) (tFld K (tVar 0) "props") (tFld K (tVar 2) "prop")) (gName 4))
    (tSeq (tAsg (tLc (iList K (tCall (sp_left_of K C) [] E0 (tCons (tVar 0) (tCons (tFld K (tVar 2) "prop") tNil)))) (gTup K 2 (gCons (gName 9) (gCons (gName 10) gNil))) (tTest (tOp (rI0 fun i j => .bl (decide (j ≤ i))) (tOp (rIxL K) (tVar 9) (tVar 3)) (tC (.int (100))))) (tVar 10) [9, 10]) (gName 5))
    (tSeq (tAsg (tLst (tCons (tC (.int 0)) tNil)) (gName 6))
    (tSeq (tFor (iList K (tCall (sp_stuck_ticks K C) [] E0 (tCons (tVar 2) (tCons (tFld K (tVar 0) "now") tNil)))) (gName 7) (tSeq (tAsg (tCall (sp_sight K C) [] E0 (tCons (tVar 2) (tCons (tOp (rI0 fun i j => .int (i + j)) (tC (.int (100))) (tVar 7)) (tCons (tFld K (tVar 4) "size") (tCons (tFld K (tVar 0) "now") tNil))))) (gName 8))
    (tIfS (tB (tCall (sp_goes_on K C) [] E0 (tCons (tFld K (tVar 4) "moves") (tCons (tVar 5) (tCons (tVar 8) tNil))))) (tDrop (tBM K "list" rAppend (tVar 6) (tCons (tVar 7) tNil))) tNext)))
    (tRet (tVar 6))))))))))
abbrev s_never_fine : Stmt := top 94
abbrev N_never_fine : List Str := ["room", "table", "number", "place", "faults", "allowed"]
def t_never_fine (K : PySem.W.Frag) (C : Cs) : TS :=
  (tSeq (tAsg (tCall (sp_place_of K C) [] E0 (tCons (tVar 0) (tCons (tVar 2) tNil))) (gName 3))
    (tSeq (tFor (iList K (tOp (rIxL K) (tVar 1) (tFld K (tOp (rIxL K) (tFld K (tVar 0) "sensors") (tVar 2)) "prop"))) (gTup K 2 (gCons (gName 4) (gCons (gName 5) gNil))) (tIfS (tTest (tOp rEq (tOp (rIxL K) (tVar 4) (tVar 3)) (tC (.int 0)))) (tRet (tC (.bl false))) tNext))
    (tRet (tC (.bl true)))))
abbrev s_say_sure : Stmt := top 95
abbrev N_say_sure : List Str := ["room", "table", "number"]
def t_say_sure (K : PySem.W.Frag) (C : Cs) : TS :=
  (tSeq (tIfS (tNot (tB (tFld K (tVar 0) "begun"))) (tRet (tLst (tCons (tUn (rU fun i => .int (-i)) (tC (.int 3))) tNil))) tNext)
    (tSeq (tIfS (tNot (tB (tCall (sp_can_be K C) [] E0 (tCons (tVar 0) tNil)))) (tRet (tLst (tCons (tUn (rU fun i => .int (-i)) (tC (.int 4))) tNil))) tNext)
    (tSeq (tAsg (tCall (sp_all_left K C) [] E0 (tCons (tVar 0) tNil)) (gName 1))
    (tRet (tOp rCat (tLst (tCons (tC (.int 0)) tNil)) (tLc (iRng1 (tCons (tCB (rLenS K) (tCons (tFld K (tVar 0) "sensors") tNil)) tNil)) (gName 2) (tB (tCall (sp_never_fine K C) [] E0 (tCons (tVar 0) (tCons (tVar 1) (tCons (tVar 2) tNil))))) (tVar 2) [2]))))))
abbrev s_say_settle : Stmt := top 96
abbrev N_say_settle : List Str := ["room", "number", "many"]
def t_say_settle (K : PySem.W.Frag) (C : Cs) : TS :=
  (tSeq (tIfS (tOr (tNot (tB (tCall (sp_is_sensor K C) [] E0 (tCons (tVar 0) (tCons (tVar 1) tNil))))) (tNot (tTest (tChain (rI0 fun i j => .bl (decide (i ≤ j))) (rI0 fun i j => .bl (decide (i ≤ j))) (tC (.int 0)) (tVar 2) (tC (.int 2)))))) (tRet (tLst (tCons (tUn (rU fun i => .int (-i)) (tC (.int 1))) tNil))) tNext)
    (tSeq (tIfS (tNot (tB (tFld K (tVar 0) "begun"))) (tRet (tLst (tCons (tUn (rU fun i => .int (-i)) (tC (.int 3))) tNil))) tNext)
    (tRet (tOp rCat (tLst (tCons (tC (.int 0)) tNil)) (tCall (sp_first_settling K C) [] E0 (tCons (tVar 0) (tCons (tVar 1) (tCons (tVar 2) tNil))))))))
abbrev s_told_are_right : Stmt := top 97
abbrev N_told_are_right : List Str := ["room", "number", "told", "size", "position"]
def t_told_are_right (K : PySem.W.Frag) (C : Cs) : TS :=
  (tSeq (tAsg (tFld K (tOp (rIxL K) (tFld K (tVar 0) "props") (tFld K (tOp (rIxL K) (tFld K (tVar 0) "sensors") (tVar 1)) "prop")) "size") (gName 3))
    (tSeq (tIfS (tTest (tOp (rI0 fun i j => .bl (decide (j < i))) (tCB (rLenS K) (tCons (tVar 2) tNil)) (tC (.int 6)))) (tRet (tC (.bl false))) tNext)
    (tSeq (tFor (iList K (tVar 2)) (gName 4) (tIfS (tNot (tTest (tChain (rI0 fun i j => .bl (decide (i ≤ j))) (rI0 fun i j => .bl (decide (i < j))) (tC (.int 0)) (tVar 4) (tVar 3)))) (tRet (tC (.bl false))) tNext))
    (tRet (tC (.bl true))))))
abbrev s_say_settles : Stmt := top 98
abbrev N_say_settles : List Str := ["room", "number", "told"]
def t_say_settles (K : PySem.W.Frag) (C : Cs) : TS :=
  (tSeq (tIfS (tOr (tNot (tB (tCall (sp_is_sensor K C) [] E0 (tCons (tVar 0) (tCons (tVar 1) tNil))))) (tNot (tB (tCall (sp_told_are_right K C) [] E0 (tCons (tVar 0) (tCons (tVar 1) (tCons (tVar 2) tNil))))))) (tRet (tLst (tCons (tUn (rU fun i => .int (-i)) (tC (.int 1))) tNil))) tNext)
    (tSeq (tIfS (tNot (tB (tFld K (tVar 0) "begun"))) (tRet (tLst (tCons (tUn (rU fun i => .int (-i)) (tC (.int 3))) tNil))) tNext)
    (tRet (tLst (tCons (tC (.int 0)) (tCons (tIf (tB (tCall (sp_settles_now K C) [] E0 (tCons (tVar 0) (tCons (tVar 1) (tCons (tVar 2) tNil))))) (tC (.int 1)) (tC (.int 0))) tNil))))))
abbrev s_say_reads : Stmt := top 99
abbrev N_say_reads : List Str := ["room", "number", "sensor"]
def t_say_reads (K : PySem.W.Frag) (C : Cs) : TS :=
  (tSeq (tIfS (tNot (tB (tCall (sp_is_sensor K C) [] E0 (tCons (tVar 0) (tCons (tVar 1) tNil))))) (tRet (tLst (tCons (tUn (rU fun i => .int (-i)) (tC (.int 1))) tNil))) tNext)
    (tSeq (tIfS (tNot (tB (tFld K (tVar 0) "begun"))) (tRet (tLst (tCons (tUn (rU fun i => .int (-i)) (tC (.int 3))) tNil))) tNext)
    (tSeq (tAsg (tOp (rIxL K) (tFld K (tVar 0) "sensors") (tVar 1)) (gName 2))
    (tRet (tOp rCat (tLst (tCons (tC (.int 0)) (tCons (tFld K (tVar 2) "first") tNil))) (tSl (rSlL K) (tFld K (tVar 2) "readings") (tPart (tFld K (tVar 2) "first")) tNoPart))))))
end Sk
/-! part Sk5 -/
namespace Sk
open PySem PySem.Spec PyProof.Rows L2 Evl
section
variable {K : PySem.W.Frag} {σ : L2.St} {G G' H : Hp} {ta tb tc te tx : TE} {tl : TA} {t u : TT} {x y z v : V} {R S : Rp} {Rs : List Rp} {i j k : Int} {α : Type} {f : α → Rp} {l : List α}
theorem ev_chain {p q : Int → Int → Bool} (ha : Ev ta σ G (.int i)) (hb : Ev tb σ G (.int j)) (hc : Ev tc σ G (.int k)) : Ev (tChain (rI0 fun i j => .bl (p i j)) (rI0 fun i j => .bl (q i j)) ta tb tc) σ G (.bl (p i j && q j k)) := fun H e Q n =>
  ha H e _ fun H1 e1 => hb H1 (e.trans e1) _ fun H2 e2 => ⟨i, j, rfl, rfl, p i j, rfl, by
    cases hp : p i j with
    | true =>
      rw [if_pos rfl]
      refine hc H2 ((e.trans e1).trans e2) _ fun H3 e3 => ⟨j, k, rfl, rfl, ?_⟩
      have q1 := n H3 ((e1.trans e2).trans e3)
      rw [hp, Bool.true_and] at q1
      exact q1
    | false =>
      rw [if_neg Bool.false_ne_true]
      have q1 := n H2 (e1.trans e2)
      rw [hp, Bool.false_and] at q1
      exact q1⟩
theorem er_ls {rs : List Rp} (h : EvR te σ G (dM rs)) : EvR te σ G (dLs K rs) := h.imp fun _ _ _ q => dM_ls q
theorem er_l (h : EvR te σ G (dM (l.map f))) : EvR te σ G (dL K f l) := er_ls h
theorem pl {v : V} (h : (dM (l.map f)).p G v) : (dL K f l).p G v := dM_ls h
theorem ev_lenL (h : EvR te σ G (dL K f l)) : Ev (tCB (rLenS K) (tCons te tNil)) σ G (.int (l.length : Int)) := by
  have e := ev_lenR h
  rw [List.length_map] at e
  exact e
theorem ev_lenM (h : EvR te σ G (dM (l.map f))) : Ev (tCB (rLenS K) (tCons te tNil)) σ G (.int (l.length : Int)) := ev_lenL (er_l h)
theorem er_ixL {n : Nat} {a : α} (ha : EvR ta σ G (dL K f l)) (hb : Ev tb σ G (.int (n : Int))) (hj : l[n]? = some a) : EvR (tOp (rIxL K) ta tb) σ G (f a) := er_ix ha hb (by
  rw [List.getElem?_map, hj]
  rfl)
theorem er_ixD {n : Nat} {d : α} (ha : EvR ta σ G (dL K f l)) (hb : Ev tb σ G (.int (n : Int))) (hj : n < l.length) : EvR (tOp (rIxL K) ta tb) σ G (f (l.getD n d)) := er_ixL ha hb (by
  rw [List.getD_eq_getElem?_getD, List.getElem?_eq_getElem hj]
  rfl)
theorem ev_ixD {g : α → V} {n : Nat} {d : α} (ha : EvR ta σ G (dL K (fun a => dV (g a)) l)) (hb : Ev tb σ G (.int (n : Int))) (hj : n < l.length) : Ev (tOp (rIxL K) ta tb) σ G (g (l.getD n d)) := ev_r (er_ixD (f := fun a => dV (g a)) ha hb hj)
theorem ev_eqv {a b : Int} (h : Ev te σ G (.int a)) (e : a = b) : Ev te σ G (.int b) := by
  rw [← e]
  exact h
theorem ev_abs (ha : Ev ta σ G (.int i)) : Ev (tCB rAbs (tCons ta tNil)) σ G (.int (i.natAbs : Int)) := fun H e Q n => ha H e _ fun H1 e1 => ⟨i, rfl, by
  have h : (if i < 0 then -i else i) = (i.natAbs : Int) := by split <;> omega
  rw [h]
  exact n H1 e1⟩
theorem ev_sum {ns : List Int} (h : EvR te σ G (dL K dI ns)) : Ev (tCB (rSum K) (tCons te tNil)) σ G (.int ns.sum) := fun H e Q n => h H e _ fun v G1 H1 g ⟨a, xs, ev, hs, hx⟩ => by
  have ex := All2.vals _ ns hx
  subst ex
  exact ⟨a, ns, by rw [ev], ex_l g.gh hs, n H1 g.hh⟩
theorem leastN_mem : ∀ {l : List Nat}, l ≠ [] → Mi.leastN l ∈ l ∧ ∀ y ∈ l, Mi.leastN l ≤ y := by
  have key : ∀ (r : List Nat) (a : Nat), r.foldl min a ∈ a :: r ∧ ∀ y ∈ a :: r, r.foldl min a ≤ y := fun r => by
    induction r with
    | nil => exact fun a => ⟨List.mem_cons_self, fun y h => by
        rw [List.mem_singleton.mp h]
        exact Nat.le_refl _⟩
    | cons b r ih =>
      intro a
      rw [List.foldl_cons]
      obtain ⟨h1, h2⟩ := ih (min a b)
      have h3 := h2 (min a b) List.mem_cons_self
      refine ⟨?_, fun y h => ?_⟩
      · rcases List.mem_cons.mp h1 with q | q
        · rw [q]
          rcases Nat.le_total a b with z | z
          · rw [Nat.min_eq_left z]
            exact List.mem_cons_self
          · rw [Nat.min_eq_right z]
            exact List.mem_cons_of_mem _ List.mem_cons_self
        · exact List.mem_cons_of_mem _ (List.mem_cons_of_mem _ q)
      · rcases List.mem_cons.mp h with q | q
        · have := Nat.min_le_left a b
          omega
        · rcases List.mem_cons.mp q with q | q
          · have := Nat.min_le_right a b
            omega
          · exact h2 y (List.mem_cons_of_mem _ q)
  intro l h
  cases l with
  | nil => exact (h rfl).elim
  | cons a r => exact key r a
theorem ev_min {ns : List Nat} (h : EvR te σ G (dL K dN ns)) (h0 : ns ≠ []) : Ev (tCB (rMin K) (tCons te tNil)) σ G (.int (Mi.leastN ns : Nat)) := fun H e Q n => h H e _ fun v G1 H1 g ⟨a, xs, ev, hs, hx⟩ => by
  have ex := All2.vals _ ns hx
  subst ex
  have em : (ns.map fun (n : Nat) => V.int (n : Int)) = (ns.map fun (n : Nat) => (n : Int)).map V.int := by
    rw [List.map_map]
    rfl
  refine ⟨a, ns.map fun (n : Nat) => (n : Int), by rw [ev], ?_, ?_, fun m hm hle => ?_⟩
  · rw [← em]
    exact ex_l g.gh hs
  · rw [List.length_map]
    exact List.length_pos_iff.mpr h0
  · obtain ⟨b, hb, rfl⟩ := List.mem_map.mp hm
    obtain ⟨q1, q2⟩ := leastN_mem h0
    have h1 := hle (Mi.leastN ns : Nat) (List.mem_map.mpr ⟨_, q1, rfl⟩)
    have h2 := q2 b hb
    have e : b = Mi.leastN ns := by omega
    rw [e]
    exact n H1 g.hh
theorem ev_allB {bs : List Bool} (h : EvR te σ G (dL K dB bs)) : Ev (tCB (rAll K) (tCons te tNil)) σ G (.bl (bs.all id)) := fun H e Q n => h H e _ fun v G1 H1 g ⟨a, xs, ev, hs, hx⟩ => by
  have ex := All2.vals _ bs hx
  subst ex
  exact ⟨a, bs, by rw [ev], ex_l g.gh hs, n H1 g.hh⟩
theorem ev_to {b c : Bool} (h : Ev te σ G (.bl b)) (e : b = c) : Ev te σ G (.bl c) := by
  rw [← e]
  exact h
theorem et_to {b c : Bool} (h : EvT t σ G b) (e : b = c) : EvT t σ G c := by
  rw [← e]
  exact h
theorem set_two {γ : Type} {i j : Nat} (hij : i ≠ j) (s : List γ) (a b c d : γ) : (((s.set i a).set j b).set i c).set j d = (s.set i c).set j d := by
  rw [List.set_comm b c (Ne.symm hij), List.set_set, List.set_set]
/-- searching loops: over pairs; over range(lo, hi); over zip -/
theorem st_find2 {β : Type} {i j : Nat} (l : List β) (f1 f2 : β → Rp) (c : β → Bool) (hsrc : EvR te σ G (dL K (fun a => dTp K [f1 a, f2 a]) l))
    (hs : ∀ a x y y1 y2 G', a ∈ l → Ex G G' → (f1 a).p G' x → (f2 a).p G' y → ∃ b, EvT t ((((σ.set i y1).set j y2).set i (some x)).set j (some y)) G' b ∧ b = c a ∧ (c a = true → EvR tx ((((σ.set i y1).set j y2).set i (some x)).set j (some y)) G' R)) (hij : i ≠ j) :
    St (tFor (iList K te) (gTup K 2 (gCons (gName i) (gCons (gName j) gNil))) (tIfS t (tRet tx) tNext)) σ G (fun σ2 _ => (∃ y1 y2, σ2 = (σ.set i y1).set j y2) ∧ ∀ a ∈ l, c a = false) R := by
  refine St.to (st_for l (fun a => dTp K [f1 a, f2 a]) (fun k σ' _ => (∃ y1 y2, σ' = (σ.set i y1).set j y2) ∧ ∀ a ∈ l.take k, c a = false) hsrc (fun _ _ => ⟨set2_self, fun a h => by simp at h⟩) fun k a v σ' G' hk e hv ⟨⟨y1, y2, es⟩, hall⟩ => ?_) fun σ2 G2 _ ⟨h1, h2⟩ => ⟨h1, by rw [List.take_length] at h2; exact h2⟩
  subst es
  obtain ⟨ad, x, y, ev, hsq, hx, hy⟩ := tp_two hv
  obtain ⟨b, ht, hb, hr⟩ := hs a x y y1 y2 G' (List.mem_of_getElem? hk) e hx hy
  refine ⟨_, tg_two ev hsq, st_if ht (fun q => st_ret (hr (by rw [← hb]; exact q))) fun q => st_next ⟨⟨some x, some y, ?_⟩, fun a' h => ?_⟩⟩
  · exact set_two hij _ _ _ _ _
  rw [take_succ hk] at h
  rcases List.mem_append.mp h with h | h
  · exact hall a' h
  · rw [List.mem_singleton.mp h, ← hb]
    exact q
theorem st_findR2 {tA : TA} {j : Nat} (lo m : Nat) (hi : Int) (em : (hi - (lo : Int)).toNat = m) (c : Nat → Bool) (hsrc : EvA tA σ G [.int (lo : Int), .int hi]) (hm : lo ≤ 1000000 ∧ -1000000 ≤ hi ∧ hi ≤ 1000000)
    (hs : ∀ n y G', n < m → Ex G G' → ∃ b, EvT t ((σ.set j y).set j (some (.int ((lo + n : Nat) : Int)))) G' b ∧ b = c n ∧ (c n = true → EvR tx ((σ.set j y).set j (some (.int ((lo + n : Nat) : Int)))) G' R)) :
    St (tFor (iRng2 tA) (gName j) (tIfS t (tRet tx) tNext)) σ G (fun σ2 _ => (∃ y, σ2 = σ.set j y) ∧ ∀ n, n < m → c n = false) R := by
  refine st_forR2 lo m hi em (fun k σ' _ => (∃ y, σ' = σ.set j y) ∧ ∀ n, n < k → c n = false) hsrc hm ⟨set_self, fun n h => absurd h (Nat.not_lt_zero n)⟩ fun k σ' G' hk e ⟨⟨y, es⟩, hall⟩ => ?_
  subst es
  obtain ⟨b, ht, hb, hr⟩ := hs k y G' hk e
  refine ⟨_, tg_name, st_if ht (fun q => st_ret (hr (by rw [← hb]; exact q))) fun q => st_next ⟨⟨_, List.set_set ..⟩, fun n h => ?_⟩⟩
  by_cases h2 : n < k
  · exact hall n h2
  · have e : n = k := by omega
    rw [e, ← hb]
    exact q
theorem st_findZ {α β : Type} {tA : TA} {i j : Nat} (l : List α) (m : List β) (f : α → Rp) (f' : β → Rp) (c : α → β → Bool) (hlen : l.length = m.length) (hij : i ≠ j) (hsrc : EvAR tA σ G [dL K f l, dL K f' m])
    (hs : ∀ a b x y y1 y2 G', (a, b) ∈ l.zip m → Ex G G' → (f a).p G' x → (f' b).p G' y → ∃ b', EvT t ((((σ.set i y1).set j y2).set i (some x)).set j (some y)) G' b' ∧ b' = c a b ∧ (c a b = true → EvR tx ((((σ.set i y1).set j y2).set i (some x)).set j (some y)) G' R)) :
    St (tFor (iZip K tA) (gTup K 2 (gCons (gName i) (gCons (gName j) gNil))) (tIfS t (tRet tx) tNext)) σ G (fun σ2 _ => (∃ y1 y2, σ2 = (σ.set i y1).set j y2) ∧ ∀ p ∈ l.zip m, c p.1 p.2 = false) R := by
  have hz : (l.zip m).length = l.length := by rw [List.length_zip]; omega
  refine St.to (st_forZ l m f f' (fun k σ' _ => (∃ y1 y2, σ' = (σ.set i y1).set j y2) ∧ ∀ p ∈ (l.zip m).take k, c p.1 p.2 = false) hlen hsrc (fun _ _ => ⟨set2_self, fun a h => by simp at h⟩) (fun k a b x y T σ' G' hka hkb e hx hy hT ⟨⟨y1, y2, es⟩, hall⟩ => ?_) (fun _ _ _ _ _ q => q)) fun σ2 G2 _ ⟨h1, h2⟩ => ⟨h1, by
    rw [← hz, List.take_length] at h2
    exact h2⟩
  subst es
  have hk : (l.zip m)[k]? = some (a, b) := by
    rw [List.getElem?_zip_eq_some]
    exact ⟨hka, hkb⟩
  obtain ⟨b', ht, hb, hr⟩ := hs a b x y y1 y2 G' (List.mem_of_getElem? hk) e hx hy
  refine ⟨_, tg_two rfl hT, st_if ht (fun q => st_ret (hr (by rw [← hb]; exact q))) fun q => st_next ⟨⟨some x, some y, ?_⟩, fun p h => ?_⟩⟩
  · exact set_two hij _ _ _ _ _
  rw [take_succ hk] at h
  rcases List.mem_append.mp h with h | h
  · exact hall p h
  · rw [List.mem_singleton.mp h, ← hb]
    exact q
theorem et_yes : EvT tYes σ G true := fun H _ _ q => q H (Ex.refl H)
end
end Sk
/-! part W1 -/
namespace Sk
open PySem PySem.Spec PyProof.Rows L2 Evl
section
variable {K : PySem.W.Frag} {mg : Str → Option Value} {C : Cs} {G : Hp}
theorem bd_is_prop (T : Txt K mg C) (r : Mi.Ro) (p : Int) {vs : List V} (hv : All2 G [dRo K C r, dI p] vs) (hk : True) : St (t_is_prop K C) (start N_is_prop vs) G noN (dV (.bl (Mi.isProp r p))) := by
  obtain ⟨x, y, rfl, hr, rfl⟩ := hv.inv2
  exact st_ret (er_v (ev_chain ev_c (ev_var rfl) (ev_lenL (er_props T (er_var rfl hr)))))
theorem bd_is_sensor (T : Txt K mg C) (r : Mi.Ro) (p : Int) {vs : List V} (hv : All2 G [dRo K C r, dI p] vs) (hk : True) : St (t_is_sensor K C) (start N_is_sensor vs) G noN (dV (.bl (Mi.isSensor r p))) := by
  obtain ⟨x, y, rfl, hr, rfl⟩ := hv.inv2
  exact st_ret (er_v (ev_chain ev_c (ev_var rfl) (ev_lenL (er_sensors T (er_var rfl hr)))))
theorem nat_eq {a b : Nat} : decide ((a : Int) = (b : Int)) = (a == b) := by
  by_cases h : a = b
  · rw [h, decide_eq_true rfl, beq_self_eq_true]
  · rw [decide_eq_false (by omega), beq_eq_false_iff_ne.mpr h]
theorem bd_sensors_of (T : Txt K mg C) (r : Mi.Ro) (p : Nat) {vs : List V} (hv : All2 G [dRo K C r, dN p] vs) (hk : Mi.Ok r) : St (t_sensors_of K C) (start N_sensors_of vs) G noN (dM ((Mi.sensorsOf r p).map (dSe C))) := by
  obtain ⟨x, y, rfl, hr, rfl⟩ := hv.inv2
  exact st_ret (er_lc r.sensors (dSe C) (fun x => x.prop == p) (dSe C) (Nat.le_trans hk.ns (by decide)) (er_sensors T (er_var rfl hr)) fun a z G1 _ e hz => ⟨_, tg_name, rfl, et_to (et_test (ev_eq (ev_prop T (er_var rfl hz)) (ev_var rfl))) nat_eq, fun _ => er_var rfl hz⟩)
theorem bd_place_of (T : Txt K mg C) (r : Mi.Ro) (i : Nat) {vs : List V} (hv : All2 G [dRo K C r, dN i] vs) (hk : Mi.Ok r ∧ i < r.sensors.length) : St (t_place_of K C) (start N_place_of vs) G noN (dV (.int (Mi.placeOf r i : Nat))) := by
  obtain ⟨x, y, rfl, hr, rfl⟩ := hv.inv2
  have hs := hk.1.ns
  have hi := hk.2
  refine q_asgV (ev_prop T (er_ixD (d := ⟨0, 0, 0, []⟩) (er_sensors T (er_var rfl hr)) (ev_var rfl) hk.2)) (st_ret (er_v ?_))
  exact ev_lenM (er_lcR1 i (fun k => (r.sensors.getD k ⟨0, 0, 0, []⟩).prop == (r.sensors.getD i ⟨0, 0, 0, []⟩).prop) (fun k => dN k) (by omega) (ea_cons (ev_var rfl) ea_nil)
    fun k G1 hk1 e => ⟨_, tg_name, rfl, et_to (et_test (ev_eq (ev_prop T (er_ixD (d := ⟨0, 0, 0, []⟩) (er_sensors T (er_var rfl (Rp.mono _ e hr))) (ev_var rfl) (by omega))) (ev_var rfl))) nat_eq, fun _ => er_var rfl rfl⟩)
theorem bd_goes (T : Txt K mg C) (m : Int) (a : Nat) (b : Nat) {vs : List V} (hv : All2 G [dI m, dN a, dN b] vs) (hk : True) : St (t_goes K C) (start N_goes vs) G noN (dV (.bl (Mi.goes m a b))) := by
  obtain ⟨x, y, z, rfl, rfl, rfl, rfl⟩ := hv.inv3
  unfold Mi.goes
  refine q_if (et_test (ev_eq (ev_var rfl) ev_c)) (fun h => st_ret (er_v ?_)) fun h => st_ret (er_v ?_)
  · rw [if_pos (of_decide_eq_true h)]
    exact ev_to (ev_eq (ev_var rfl) (ev_var rfl)) nat_eq
  · rw [if_neg (of_decide_eq_false h)]
    exact ev_orV (ev_eq (ev_var rfl) ev_c) fun _ => ev_eq (ev_var rfl) (ev_var rfl)
theorem any_contains (p : Nat) : ∀ l : List Nat, (l.any fun (a : Nat) => decide ((a : Int) = (p : Int))) = l.contains p
  | [] => rfl
  | a :: l => by
    have e : (p == a) = decide ((a : Int) = (p : Int)) := by
      rw [nat_eq]
      exact Bool.beq_comm
    rw [List.any_cons, List.contains_cons, any_contains p l, e]
theorem len_pos {n : Nat} : decide ((0 : Int) < (n : Int)) = decide (0 < n) := decide_eq_decide.mpr (by omega)
theorem bd_comes (T : Txt K mg C) (bs : List Nat) (m : Int) (p : Nat) {vs : List V} (hv : All2 G [dRow K bs, dI m, dN p] vs) (hk : True) : St (t_comes K C) (start N_comes vs) G noN (dV (.bl (Mi.comes bs m p))) := by
  obtain ⟨x, y, z, rfl, hb, rfl, rfl⟩ := hv.inv3
  unfold Mi.comes
  refine q_if (et_test (ev_eq (ev_var rfl) ev_c)) (fun h => st_ret (er_v ?_)) fun h => ?_
  · rw [if_pos (of_decide_eq_true h)]
    exact ev_to (ev_inR (ev_var rfl) (er_var rfl hb)) (any_contains p bs)
  rw [if_neg (of_decide_eq_false h)]
  refine q_if (et_test (ev_eq (ev_var rfl) ev_c)) (fun h => st_ret (er_v ?_)) fun h => st_ret (er_v ?_)
  · rw [if_pos (of_decide_eq_true h)]
    exact ev_to (ev_gt (ev_lenL (er_var rfl hb)) ev_c) len_pos
  · rw [if_neg (of_decide_eq_false h)]
    exact ev_andV (ev_to (ev_gt (ev_lenL (er_var rfl hb)) ev_c) len_pos) fun _ => ev_eq (ev_var rfl) (ev_var rfl)
theorem bd_leads (T : Txt K mg C) (p : Nat) (m : Int) (bs : List Nat) {vs : List V} (hv : All2 G [dN p, dI m, dRow K bs] vs) (hk : True) : St (t_leads K C) (start N_leads vs) G noN (dV (.bl (Mi.leads p m bs))) := by
  obtain ⟨x, y, z, rfl, rfl, rfl, hb⟩ := hv.inv3
  unfold Mi.leads
  refine q_if (et_test (ev_eq (ev_var rfl) ev_c)) (fun h => st_ret (er_v ?_)) fun h => ?_
  · rw [if_pos (of_decide_eq_true h)]
    exact ev_to (ev_inR (ev_var rfl) (er_var rfl hb)) (any_contains p bs)
  rw [if_neg (of_decide_eq_false h)]
  refine q_if (et_test (ev_eq (ev_var rfl) ev_c)) (fun h => st_ret (er_v ?_)) fun h => st_ret (er_v ?_)
  · rw [if_pos (of_decide_eq_true h)]
    exact ev_to (ev_gt (ev_lenL (er_var rfl hb)) ev_c) len_pos
  · rw [if_neg (of_decide_eq_false h)]
    exact ev_inR (ev_var rfl) (er_var rfl hb)
end
end Sk
/-! part W2 -/
namespace Mi
theorem RowsOk.get {ms : List Int} {al : List (List Nat)} (h : RowsOk ms al) (t : Nat) : (al.getD t []).length ≤ 100 := by
  by_cases q : t < al.length
  · rw [List.getD_eq_getElem?_getD, List.getElem?_eq_getElem q]
    exact h.row _ (List.getElem_mem q)
  · rw [List.getD_eq_getElem?_getD, List.getElem?_eq_none (by omega)]
    exact Nat.zero_le _
end Mi
namespace Sk
open PySem PySem.Spec PyProof.Rows L2 Evl
theorem All2.imp {α : Type} {G : Hp} {f g : α → Rp} (h : ∀ a v, (f a).p G v → (g a).p G v) : ∀ (l : List α) {vs : List V}, All2 G (l.map f) vs → All2 G (l.map g) vs
  | [], _, q => by
    cases q
    exact .nil
  | a :: l, _, q => by
    cases q with
    | cons q1 q2 => exact .cons (h a _ q1) (All2.imp h l q2)
section
variable {K : PySem.W.Frag} {mg : Str → Option Value} {C : Cs} {G : Hp}
theorem range_snoc {α : Type} {f : Nat → α} {n : Nat} : (List.range (n + 1)).map f = (List.range n).map f ++ [f n] := by
  rw [List.range_succ, List.map_append]
  rfl
theorem bd_forward (T : Txt K mg C) (ms : List Int) (al : List (List Nat)) {vs : List V} (hv : All2 G [dInts K ms, dRows K al] vs) (hk : Mi.RowsOk ms al) : St (t_forward K C) (start N_forward vs) G noN (dM ((Mi.forward ms al).map (dRow K))) := by
  obtain ⟨x, y, rfl, hm, ha⟩ := hv.inv2
  have hl := hk.len
  have hp := hk.pos
  have hlim := hk.lim
  refine q_build (Rs := [dMN (al.getD 0 [])]) (fun p σ2 G2 ys => (∃ y3 y4, σ2 = [some x, some y, some (.ref p), y3, y4, none]) ∧ All2 G2 ((Mi.forward ms al).map (dRow K)) ys)
    (ear_cons (er_list (er_ixD (n := 0) (f := dRow K) (er_var rfl ha) ev_c (by omega))) ear_nil) (by show 1 ≤ 100000; decide) (fun p xs0 G1 e1 h0 => ?_) (fun p σ2 G2 ys e2 hp2 hn => ?_)
  · obtain ⟨v0, rfl, q0⟩ := h0.inv1
    refine StB.to (sb_forR2 1 (ms.length - 1) (ms.length : Int) (by omega) (fun i σ' G' ys => (∃ y3 y4, σ' = [some x, some y, some (.ref p), y3, y4, none]) ∧ All2 G' (((List.range (i + 1)).map (Mi.fwd ms al)).map (dRow K)) ys)
      (ea_cons ev_c (ea_cons (ev_lenL (er_var rfl (Rp.mono _ e1 hm))) ea_nil)) ⟨by omega, by omega, by omega⟩ ⟨⟨none, none, rfl⟩, .one (dM_ls q0)⟩ fun i σ' G' ys hi e ⟨⟨y3, y4, es⟩, hys⟩ => ?_) fun σ2 G2 ys _ ⟨h1, h2⟩ => ⟨h1, ?_⟩
    · subst es
      obtain ⟨v, hv1, hv2⟩ := hys.get (i := i) (r := dRow K (Mi.fwd ms al i)) (by rw [List.getElem?_map, List.getElem?_map, List.getElem?_range (by omega)]; rfl)
      refine ⟨_, tg_name, sb_asgV (ev_op (ev_var rfl) (ev_eqv (ev_sub (ev_var rfl) ev_c) (show ((1 + i : Nat) : Int) - 1 = (i : Int) by omega)) (rv_ixL (sq_of upd_same) (atI_nat hv1))) ?_⟩
      refine sb_app rfl (er_lc (al.getD (1 + i) []) dN (Mi.comes (Mi.fwd ms al i) (ms.getD (1 + i) 0)) dN (Nat.le_trans (hk.get _) (by decide)) (er_ixD (er_var rfl (Rp.mono _ (e1.trans e) ha)) (ev_var rfl) (by omega))
        fun a z G2 _ e2 hz => ⟨_, tg_name, rfl, et_B (ca_comes (ear_cons (er_var rfl (Rp.mono _ e2 hv2)) (ear_cons (er_v (ev_ixD (g := V.int) (d := 0) (er_var rfl (Rp.mono _ ((e1.trans e).trans e2) hm)) (ev_var rfl) (by omega))) (ear_cons (er_var rfl hz) ear_nil)))), fun _ => er_var rfl hz⟩) ?_ fun v2 G2 e2 hr => ?_
      · rw [hys.length, List.length_map, List.length_map, List.length_range]
        omega
      · refine ⟨⟨_, _, rfl⟩, ?_⟩
        rw [range_snoc, List.map_append]
        refine (hys.mono e2).append (.one (dM_ls ?_))
        have e3 : Mi.fwd ms al (i + 1) = (al.getD (1 + i) []).filter (Mi.comes (Mi.fwd ms al i) (ms.getD (1 + i) 0)) := by
          rw [Nat.add_comm 1 i]
          rfl
        rw [e3]
        exact hr
    · have e3 : ms.length - 1 + 1 = ms.length := by omega
      rw [e3] at h2
      exact h2
  · obtain ⟨⟨y3, y4, rfl⟩, hys⟩ := hn
    exact st_ret (er_var rfl ⟨p, ys, rfl, upd_same, hys.mono (Ex.new hp2)⟩)
end
end Sk
/-! part W3 -/
namespace Mi
theorem forward_at {ms : List Int} {al : List (List Nat)} {t : Nat} (h : t < ms.length) : (forward ms al)[t]? = some (fwd ms al t) := by
  unfold forward
  rw [List.getElem?_map, List.getElem?_range h]
  rfl
theorem forward_len {ms : List Int} {al : List (List Nat)} : (forward ms al).length = ms.length := by
  unfold forward
  rw [List.length_map, List.length_range]
theorem comes_goes {bs : List Nat} {m : Int} {a : Nat} (h : comes bs m a = true) : ∃ b ∈ bs, goes m b a = true := by
  unfold comes at h
  unfold goes
  by_cases h1 : m = -1
  · rw [if_pos h1] at h
    exact ⟨a, List.contains_iff_mem.mp h, by rw [if_pos h1]; exact beq_self_eq_true a⟩
  · rw [if_neg h1] at h
    have ne : ∀ {n : Nat}, decide (0 < bs.length) = true → ∃ b, b ∈ bs := fun {n} q => by
      have q := of_decide_eq_true q
      exact ⟨bs[0], List.getElem_mem q⟩
    by_cases h2 : m = -2
    · rw [if_pos h2] at h
      obtain ⟨b, hb⟩ := ne (n := 0) h
      exact ⟨b, hb, by rw [if_neg h1, decide_eq_true h2]; rfl⟩
    · rw [if_neg h2, Bool.and_eq_true] at h
      obtain ⟨b, hb⟩ := ne (n := 0) h.1
      have e := of_decide_eq_true h.2
      exact ⟨b, hb, by rw [if_neg h1, ← e, decide_eq_true rfl, Bool.or_true]⟩
theorem fwd_back {ms : List Int} {al : List (List Nat)} {t a : Nat} (h : a ∈ fwd ms al (t + 1)) : ∃ b ∈ fwd ms al t, goes (ms.getD (t + 1) 0) b a = true := comes_goes (List.mem_filter.mp h).2
theorem fwd_len {ms : List Int} {al : List (List Nat)} (h : RowsOk ms al) : ∀ t, (fwd ms al t).length ≤ 100
  | 0 => h.get 0
  | t + 1 => Nat.le_trans (List.length_filter_le _ _) (h.get (t + 1))
theorem lst_in {ms : List Int} {al : List (List Nat)} (hk : RowsOk ms al) (h : hasCourse ms al = true) : ∀ k, k < ms.length → lst ms al k ∈ fwd ms al (ms.length - 1 - k) := by
  intro k
  induction k with
  | zero =>
    intro _
    have q := of_decide_eq_true h
    exact (Sk.leastN_mem (List.length_pos_iff.mp q)).1
  | succ k ih =>
    intro hl
    have q := ih (by omega)
    have e : ms.length - 1 - k = (ms.length - 2 - k) + 1 := by omega
    rw [e] at q
    obtain ⟨b, hb, hg⟩ := fwd_back q
    rw [← e] at hg
    have hm : b ∈ (fwd ms al (ms.length - 2 - k)).filter fun p => goes (ms.getD (ms.length - 1 - k) 0) p (lst ms al k) := List.mem_filter.mpr ⟨hb, hg⟩
    have q2 := (Sk.leastN_mem (List.ne_nil_of_mem hm)).1
    have e2 : ms.length - 1 - (k + 1) = ms.length - 2 - k := by omega
    rw [e2]
    exact (List.mem_filter.mp q2).1
theorem lst_ne {ms : List Int} {al : List (List Nat)} (hk : RowsOk ms al) (h : hasCourse ms al = true) {k : Nat} (hl : k + 1 < ms.length) : ((fwd ms al (ms.length - 2 - k)).filter fun p => goes (ms.getD (ms.length - 1 - k) 0) p (lst ms al k)) ≠ [] := by
  have q := lst_in hk h k (by omega)
  have e : ms.length - 1 - k = (ms.length - 2 - k) + 1 := by omega
  rw [e] at q
  obtain ⟨b, hb, hg⟩ := fwd_back q
  rw [← e] at hg
  exact List.ne_nil_of_mem (List.mem_filter.mpr ⟨hb, hg⟩)
end Mi
namespace Sk
open PySem PySem.Spec PyProof.Rows L2 Evl
section
variable {K : PySem.W.Frag} {mg : Str → Option Value} {C : Cs} {G : Hp}
theorem bd_exists (T : Txt K mg C) (ms : List Int) (al : List (List Nat)) {vs : List V} (hv : All2 G [dInts K ms, dRows K al] vs) (hk : Mi.RowsOk ms al) : St (t_exists K C) (start N_exists vs) G noN (dV (.bl (Mi.hasCourse ms al))) := by
  obtain ⟨x, y, rfl, hm, ha⟩ := hv.inv2
  have hp := hk.pos
  refine q_asgR (ca_forward (ear_cons (er_var rfl hm) (ear_cons (er_var rfl ha) ear_nil)) hk) fun z G2 e hz => st_ret (er_v ?_)
  exact ev_to (ev_gt (ev_lenL (er_ixL (er_l (er_var rfl hz)) (ev_eqv (ev_sub (ev_lenM (er_var rfl hz)) ev_c) (show ((Mi.forward ms al).length : Int) - 1 = ((ms.length - 1 : Nat) : Int) by rw [Mi.forward_len]; omega)) (Mi.forward_at (by omega)))) ev_c) len_pos
theorem bd_seats (T : Txt K mg C) (ms : List Int) (al : List (List Nat)) {vs : List V} (hv : All2 G [dInts K ms, dRows K al] vs) (hk : Mi.RowsOk ms al) : St (t_seats K C) (start N_seats vs) G noN (dM ((Mi.seats ms al).map (dRow K))) := by
  obtain ⟨x, y, rfl, hm, ha⟩ := hv.inv2
  have hp := hk.pos
  have hlim := hk.lim
  refine q_asgR (ca_forward (ear_cons (er_var rfl hm) (ear_cons (er_var rfl ha) ear_nil)) hk) fun z G2 e hz => ?_
  refine q_build (Rs := [dRow K (Mi.fwd ms al (ms.length - 1))]) (fun p σ2 G2 ys => (∃ y4 y5, σ2 = [some x, some y, some z, some (.ref p), y4, y5, none]) ∧ All2 G2 (((List.range ms.length).map (Mi.bwd ms al)).map (dRow K)) ys)
    (ear_cons (er_ixL (er_l (er_var rfl hz)) (ev_eqv (ev_sub (ev_lenM (er_var rfl hz)) ev_c) (show ((Mi.forward ms al).length : Int) - 1 = ((ms.length - 1 : Nat) : Int) by rw [Mi.forward_len]; omega)) (Mi.forward_at (by omega))) ear_nil) (by show 1 ≤ 100000; decide) (fun p xs0 G1 e1 h0 => ?_) (fun p σ2 G2 ys e2 hp2 hn => ?_)
  · refine StB.to (sb_forD (ms.length - 1) (fun i σ' G' ys => (∃ y4 y5, σ' = [some x, some y, some z, some (.ref p), y4, y5, none]) ∧ All2 G' (((List.range (i + 1)).map (Mi.bwd ms al)).map (dRow K)) ys)
      (ea_cons (ev_eqv (ev_sub (ev_lenL (er_var rfl (Rp.mono _ (e.trans e1) hm))) ev_c) (by omega)) (ea_cons ev_c (ea_cons (ev_neg ev_c) ea_nil))) (by omega) ⟨⟨none, none, rfl⟩, h0⟩ fun i σ' G' ys hi e2 ⟨⟨y4, y5, es⟩, hys⟩ => ?_) fun σ2 G2 ys _ ⟨h1, h2⟩ => ⟨h1, ?_⟩
    · subst es
      have hyl : ys.length = i + 1 := by rw [hys.length, List.length_map, List.length_map, List.length_range]
      obtain ⟨v, hv1, hv2⟩ := hys.get (i := i) (r := dRow K (Mi.bwd ms al i)) (by rw [List.getElem?_map, List.getElem?_map, List.getElem?_range (by omega)]; rfl)
      refine ⟨_, tg_name, sb_asgV (ev_op (ev_var rfl) (ev_eqv (ev_sub (ev_len (ev_var rfl) (sq_of upd_same)) ev_c) (show (ys.length : Int) - 1 = (i : Int) by omega)) (rv_ixL (sq_of upd_same) (atI_nat hv1))) ?_⟩
      refine sb_app rfl (er_lc (Mi.fwd ms al (ms.length - 2 - i)) dN (fun p => Mi.leads p (ms.getD (ms.length - 1 - i) 0) (Mi.bwd ms al i)) dN (Nat.le_trans (Mi.fwd_len hk _) (by decide))
        (er_ixL (er_l (er_var rfl (Rp.mono _ (e1.trans e2) hz))) (ev_eqv (ev_sub (ev_var rfl) ev_c) (show ((ms.length - 1 - i : Nat) : Int) - 1 = ((ms.length - 2 - i : Nat) : Int) by omega)) (Mi.forward_at (by omega)))
        fun a w G2 _ e3 hw => ⟨_, tg_name, rfl, et_B (ca_leads (ear_cons (er_var rfl hw) (ear_cons (er_v (ev_ixD (g := V.int) (d := 0) (er_var rfl (Rp.mono _ (((e.trans e1).trans e2).trans e3) hm)) (ev_var rfl) (by omega))) (ear_cons (er_var rfl (Rp.mono _ e3 hv2)) ear_nil)))), fun _ => er_var rfl hw⟩) ?_ fun v2 G2 e3 hr => ?_
      · omega
      · refine ⟨⟨_, _, rfl⟩, ?_⟩
        rw [range_snoc, List.map_append]
        exact (hys.mono e3).append (.one (dM_ls hr))
    · have e3 : ms.length - 1 + 1 = ms.length := by omega
      rw [e3] at h2
      exact h2
  · obtain ⟨⟨y4, y5, rfl⟩, hys⟩ := hn
    refine st_ret ?_
    have h := er_revL (K := K) (er_var (i := 3) (σ := [some x, some y, some z, some (.ref p), y4, y5, none]) (G := upd G2 p (.lst ys)) rfl (R := dLs K (((List.range ms.length).map (Mi.bwd ms al)).map (dRow K))) ⟨p, ys, rfl, sq_of upd_same, hys.mono (Ex.new hp2)⟩)
    rw [← List.map_reverse] at h
    exact h
theorem bd_least_course (T : Txt K mg C) (ms : List Int) (al : List (List Nat)) {vs : List V} (hv : All2 G [dInts K ms, dRows K al] vs) (hk : Mi.RowsOk ms al ∧ Mi.hasCourse ms al = true) : St (t_least_course K C) (start N_least_course vs) G noN (dMN (Mi.leastCourse ms al)) := by
  obtain ⟨x, y, rfl, hm, ha⟩ := hv.inv2
  obtain ⟨hk, hc⟩ := hk
  have hp := hk.pos
  have hlim := hk.lim
  refine q_asgR (ca_forward (ear_cons (er_var rfl hm) (ear_cons (er_var rfl ha) ear_nil)) hk) fun z G2 e hz => ?_
  refine q_build (Rs := [dN (Mi.lst ms al 0)]) (fun p σ2 G2 ys => (∃ y4 y5, σ2 = [some x, some y, some z, some (.ref p), y4, y5, none]) ∧ All2 G2 (((List.range ms.length).map (Mi.lst ms al)).map dN) ys)
    (ear_cons (er_v (ev_min (er_ixL (er_l (er_var rfl hz)) (ev_eqv (ev_sub (ev_lenM (er_var rfl hz)) ev_c) (show ((Mi.forward ms al).length : Int) - 1 = ((ms.length - 1 : Nat) : Int) by rw [Mi.forward_len]; omega)) (Mi.forward_at (by omega))) (List.length_pos_iff.mp (of_decide_eq_true hc)))) ear_nil) (by show 1 ≤ 100000; decide) (fun p xs0 G1 e1 h0 => ?_) (fun p σ2 G2 ys e2 hp2 hn => ?_)
  · refine StB.to (sb_forD (ms.length - 1) (fun i σ' G' ys => (∃ y4 y5, σ' = [some x, some y, some z, some (.ref p), y4, y5, none]) ∧ All2 G' (((List.range (i + 1)).map (Mi.lst ms al)).map dN) ys)
      (ea_cons (ev_eqv (ev_sub (ev_lenL (er_var rfl (Rp.mono _ (e.trans e1) hm))) ev_c) (by omega)) (ea_cons ev_c (ea_cons (ev_neg ev_c) ea_nil))) (by omega) ⟨⟨none, none, rfl⟩, h0⟩ fun i σ' G' ys hi e2 ⟨⟨y4, y5, es⟩, hys⟩ => ?_) fun σ2 G2 ys _ ⟨h1, h2⟩ => ⟨h1, ?_⟩
    · subst es
      have hyl : ys.length = i + 1 := by rw [hys.length, List.length_map, List.length_map, List.length_range]
      obtain ⟨v, hv1, hv2⟩ := hys.get (i := i) (r := dN (Mi.lst ms al i)) (by rw [List.getElem?_map, List.getElem?_map, List.getElem?_range (by omega)]; rfl)
      refine ⟨_, tg_name, sb_asgV (ev_op (ev_var rfl) (ev_eqv (ev_sub (ev_len (ev_var rfl) (sq_of upd_same)) ev_c) (show (ys.length : Int) - 1 = (i : Int) by omega)) (rv_ixL (sq_of upd_same) (atI_nat hv1))) ?_⟩
      refine sb_app (R := dN (Mi.lst ms al (i + 1))) rfl (er_v (ev_min (er_l (er_lc (Mi.fwd ms al (ms.length - 2 - i)) dN (fun p => Mi.goes (ms.getD (ms.length - 1 - i) 0) p (Mi.lst ms al i)) dN (Nat.le_trans (Mi.fwd_len hk _) (by decide))
        (er_ixL (er_l (er_var rfl (Rp.mono _ (e1.trans e2) hz))) (ev_eqv (ev_sub (ev_var rfl) ev_c) (show ((ms.length - 1 - i : Nat) : Int) - 1 = ((ms.length - 2 - i : Nat) : Int) by omega)) (Mi.forward_at (by omega)))
        fun a w G2 _ e3 hw => ⟨_, tg_name, rfl, et_B (ca_goes (ear_cons (er_v (ev_ixD (g := V.int) (d := 0) (er_var rfl (Rp.mono _ (((e.trans e1).trans e2).trans e3) hm)) (ev_var rfl) (by omega))) (ear_cons (er_var rfl hw) (ear_cons (er_var rfl (Rp.mono _ e3 hv2)) ear_nil)))), fun _ => er_var rfl hw⟩)) (Mi.lst_ne hk hc (by omega)))) ?_ fun v2 G2 e3 hr => ?_
      · omega
      · refine ⟨⟨_, _, rfl⟩, ?_⟩
        rw [range_snoc, List.map_append]
        exact (hys.mono e3).append (.one hr)
    · have e3 : ms.length - 1 + 1 = ms.length := by omega
      rw [e3] at h2
      exact h2
  · obtain ⟨⟨y4, y5, rfl⟩, hys⟩ := hn
    refine st_ret ?_
    have h := er_revL (K := K) (er_var (i := 3) (σ := [some x, some y, some z, some (.ref p), y4, y5, none]) (G := upd G2 p (.lst ys)) rfl (R := dLs K (((List.range ms.length).map (Mi.lst ms al)).map dN)) ⟨p, ys, rfl, sq_of upd_same, hys.mono (Ex.new hp2)⟩)
    rw [← List.map_reverse] at h
    exact h
end
end Sk
/-! part W4 -/
namespace Sk
open PySem PySem.Spec PyProof.Rows L2 Evl
section
variable {K : PySem.W.Frag} {mg : Str → Option Value} {C : Cs} {G : Hp}
theorem nb_t {b : Bool} (h : (!b) = true) : b = false := by
  cases b with
  | false => rfl
  | true => cases h
theorem nb_f {b : Bool} (h : (!b) = false) : b = true := by
  cases b with
  | true => rfl
  | false => cases h
theorem all_false {α : Type} {l : List α} {p : α → Bool} {a : α} (h : a ∈ l) (q : p a = false) : l.all p = false := by
  cases e : l.all p with
  | false => rfl
  | true =>
    rw [List.all_eq_true.mp e a h] at q
    cases q
theorem bd_is_course (T : Txt K mg C) (ms : List Int) (size : Nat) (c : List Nat) {vs : List V} (hv : All2 G [dInts K ms, dN size, dRow K c] vs) (hk : 1 ≤ ms.length ∧ ms.length ≤ 100) : St (t_is_course K C) (start N_is_course vs) G noN (dV (.bl (Mi.isCourse ms size c))) := by
  obtain ⟨x, y, z, rfl, hm, rfl, hc⟩ := hv.inv3
  obtain ⟨hp, hlim⟩ := hk
  unfold Mi.isCourse
  refine q_if (et_test (ev_ne (ev_lenL (er_var rfl hc)) (ev_lenL (er_var rfl hm)))) (fun h => st_ret (er_v ?_)) fun h => ?_
  · have e : ¬ c.length = ms.length := fun q => by
      rw [q, decide_eq_true rfl] at h
      cases h
    rw [decide_eq_false e, Bool.false_and, Bool.false_and]
    exact ev_c
  have e : c.length = ms.length := by
    by_cases q : c.length = ms.length
    · exact q
    · rw [decide_eq_false (by omega)] at h
      cases h
  rw [decide_eq_true e, Bool.true_and]
  refine st_seq (st_find c dN (fun p => decide ((p : Int) < 0) || decide ((size : Int) ≤ (p : Int))) (er_var rfl hc) fun a w y3 G' ha e1 hw => ⟨_, et_or (et_test (ev_lt (er_var rfl hw |> ev_r) ev_c)) fun _ => et_test (ev_ge (er_var rfl hw |> ev_r) (ev_var rfl)), rfl, fun q => er_v ?_⟩) fun σ2 G2 e2 ⟨⟨y3, es⟩, hall⟩ => ?_
  · have h1 : decide (a < size) = false := by
      rw [decide_eq_false (show ¬ (a : Int) < 0 by omega), Bool.false_or] at q
      have := of_decide_eq_true q
      exact decide_eq_false (by omega)
    rw [all_false (p := fun p => decide (p < size)) ha h1, Bool.false_and]
    exact ev_c
  subst es
  have h1 : (c.all fun p => decide (p < size)) = true := List.all_eq_true.mpr fun a ha => by
    have q := hall a ha
    rw [Bool.or_eq_false_iff] at q
    have := of_decide_eq_false q.2
    exact decide_eq_true (by omega)
  rw [h1, Bool.true_and]
  have hm2 := Rp.mono _ e2 hm
  have hc2 := Rp.mono _ e2 hc
  refine st_seq (st_findR2 1 (ms.length - 1) (ms.length : Int) (by omega) (fun i => !Mi.goes (ms.getD (1 + i) 0) (c.getD i 0) (c.getD (1 + i) 0)) (ea_cons ev_c (ea_cons (ev_lenL (er_var rfl hm2)) ea_nil)) ⟨by omega, by omega, by omega⟩ fun n y4 G' hn e3 => ⟨_,
    et_not (et_B (ca_goes (ear_cons (er_v (ev_ixD (g := V.int) (d := 0) (er_var rfl (Rp.mono _ e3 hm2)) (ev_var rfl) (by omega))) (ear_cons (er_ixD (f := dN) (d := 0) (er_var rfl (Rp.mono _ e3 hc2)) (ev_eqv (ev_sub (ev_var rfl) ev_c) (show ((1 + n : Nat) : Int) - 1 = (n : Int) by omega)) (by omega)) (ear_cons (er_ixD (f := dN) (d := 0) (er_var rfl (Rp.mono _ e3 hc2)) (ev_var rfl) (by omega)) ear_nil))))), rfl, fun q => er_v ?_⟩) fun σ2 G3 e3 ⟨⟨y4, es⟩, hall2⟩ => ?_
  · have h2 : Mi.goes (ms.getD (n + 1) 0) (c.getD n 0) (c.getD (n + 1) 0) = false := by
      rw [Nat.add_comm n 1]
      exact nb_t q
    rw [all_false (p := fun i => Mi.goes (ms.getD (i + 1) 0) (c.getD i 0) (c.getD (i + 1) 0)) (List.mem_range.mpr hn) h2]
    exact ev_c
  · refine st_ret (er_v ?_)
    have h2 : ((List.range (ms.length - 1)).all fun i => Mi.goes (ms.getD (i + 1) 0) (c.getD i 0) (c.getD (i + 1) 0)) = true := List.all_eq_true.mpr fun i hi => by
      have q := hall2 i (List.mem_range.mp hi)
      rw [Nat.add_comm i 1]
      exact nb_f q
    rw [h2]
    exact ev_c
theorem bd_within (T : Txt K mg C) (c : List Nat) (al : List (List Nat)) {vs : List V} (hv : All2 G [dRow K c, dRows K al] vs) (hk : c.length = al.length) : St (t_within K C) (start N_within vs) G noN (dV (.bl (Mi.within c al))) := by
  obtain ⟨x, y, rfl, hc, ha⟩ := hv.inv2
  unfold Mi.within
  refine st_seq (st_findZ c al dN (dRow K) (fun p h => !h.contains p) hk (by decide) (ear_cons (er_var rfl hc) (ear_cons (er_var rfl ha) ear_nil)) fun a b x1 y1 z1 z2 G' hm e hx hy => ⟨_, et_test (ev_to (ev_notInR (ev_r (er_var rfl hx)) (er_var rfl hy)) (congrArg (!·) (any_contains a b))), rfl, fun q => er_v ?_⟩) fun σ2 G2 e ⟨⟨z1, z2, es⟩, hall⟩ => st_ret (er_v ?_)
  · rw [all_false (p := fun x : Nat × List Nat => x.2.contains x.1) hm (nb_t q)]
    exact ev_c
  · rw [List.all_eq_true.mpr fun p hp => nb_f (hall p hp)]
    exact ev_c
end
end Sk
/-! part W5 -/
namespace Sk
open PySem PySem.Spec PyProof.Rows L2 Evl
section
variable {K : PySem.W.Frag} {mg : Str → Option Value} {C : Cs} {G : Hp} {σ : L2.St} {te tb : TE}
theorem er_fromL {α : Type} {f : α → Rp} {l : List α} {n : Nat} (ha : EvR te σ G (dL K f l)) (hb : Ev tb σ G (.int (n : Int))) : EvR (tSl (rSlL K) te (tPart tb) tNoPart) σ G (dM ((l.drop n).map f)) := by
  rw [List.map_drop]
  exact er_from ha hb
theorem er_items {α : Type} {f g : α → Rp} {l : List α} (h : EvR te σ G (dM (l.map f))) (i : ∀ a G v, (f a).p G v → (g a).p G v) : EvR te σ G (dM (l.map g)) := h.imp fun G2 v _ ⟨a, xs, h1, h2, h3⟩ => ⟨a, xs, h1, h2, All2.imp (fun a v => i a G2 v) l h3⟩
theorem filter_tt {α : Type} : ∀ l : List α, l.filter (fun _ => true) = l
  | [] => rfl
  | a :: l => by
    rw [List.filter_cons, if_pos rfl, filter_tt l]
theorem er_all {α : Type} {f : α → Rp} {l : List α} (h : EvR te σ G (dM ((l.filter fun _ => true).map f))) : EvR te σ G (dM (l.map f)) := by
  rw [filter_tt] at h
  exact h
theorem dec_iff {a b : Prop} [Decidable a] [Decidable b] (h : a ↔ b) : decide a = decide b := decide_eq_decide.mpr h
theorem bd_is_fault (T : Txt K mg C) (n : Int) {vs : List V} (hv : All2 G [dI n] vs) (hk : True) : St (t_is_fault K C) (start N_is_fault vs) G noN (dV (.bl (Mi.isFault n))) := by
  obtain ⟨x, rfl, rfl⟩ := hv.inv1
  refine st_ret (er_v (ev_to (ev_orV (ev_chain ev_c (ev_var rfl) ev_c) fun _ => ev_chain ev_c (ev_var rfl) (ev_add ev_c ev_c)) ?_))
  unfold Mi.isFault
  rw [Bool.decide_and, Bool.decide_and]
  rfl
theorem bd_readings_from (T : Txt K mg C) (x : Mi.Se) (t : Nat) {vs : List V} (hv : All2 G [dSe C x, dN t] vs) (hk : x.readings.length ≤ 100) : St (t_readings_from K C) (start N_readings_from vs) G noN (dMI (Mi.readingsFrom x t)) := by
  obtain ⟨a, b, rfl, hx, rfl⟩ := hv.inv2
  exact st_ret (er_lc (x.readings.drop t) dI (fun n => !decide (n = -1)) dI (by rw [List.length_drop]; omega) (er_l (er_fromL (er_l (er_readings T (er_var rfl hx))) (ev_var rfl))) fun n w G1 _ e hw => ⟨_, tg_name, rfl, et_test (ev_ne (ev_r (er_var rfl hw)) ev_c), fun _ => er_var rfl hw⟩)
theorem bd_can_stick (T : Txt K mg C) (x : Mi.Se) (t : Nat) {vs : List V} (hv : All2 G [dSe C x, dN t] vs) (hk : x.readings.length ≤ 100) : St (t_can_stick K C) (start N_can_stick vs) G noN (dV (.bl (Mi.canStick x t))) := by
  obtain ⟨a, b, rfl, hx, rfl⟩ := hv.inv2
  unfold Mi.canStick
  refine q_asgR (ca_readings_from (ear_cons (er_var rfl hx) (ear_cons (er_var rfl rfl) ear_nil)) hk) fun y G2 e hy => ?_
  refine st_seq (st_find (Mi.readingsFrom x t) dI (fun n => !decide (n = (Mi.readingsFrom x t).getD 0 0)) (er_l (er_var rfl hy)) fun n w y3 G' hn e1 hw => ⟨_, et_test (ev_ne (ev_r (er_var rfl hw)) (ev_ixD (n := 0) (g := V.int) (d := 0) (er_l (er_var rfl (Rp.mono _ e1 hy))) ev_c (List.length_pos_iff.mpr (List.ne_nil_of_mem hn)))), rfl, fun q => er_v ?_⟩) fun σ2 G2 e2 ⟨⟨y3, es⟩, hall⟩ => st_ret (er_v ?_)
  · rw [all_false (p := fun n => decide (n = (Mi.readingsFrom x t).getD 0 0)) hn (nb_t q)]
    exact ev_c
  · rw [List.all_eq_true.mpr fun n hn => nb_f (hall n hn)]
    exact ev_c
theorem bd_stuck_ticks (T : Txt K mg C) (x : Mi.Se) (now : Nat) {vs : List V} (hv : All2 G [dSe C x, dN now] vs) (hk : Mi.SeOk x now) : St (t_stuck_ticks K C) (start N_stuck_ticks vs) G noN (dMN (Mi.stuckTicks x now)) := by
  obtain ⟨a, b, rfl, hx, rfl⟩ := hv.inv2
  have h1 := hk.hn
  have h2 := hk.hf
  have h3 := hk.hl
  exact st_ret (er_lcR2 x.first (now + 1 - x.first) ((now : Int) + 1) (by omega) (Mi.canStick x) dN (by omega) (by omega) (ea_cons (ev_first T (er_var rfl hx)) (ea_cons (ev_add (ev_var rfl) ev_c) ea_nil))
    fun i G1 hi e => ⟨_, tg_name, rfl, et_B (ca_can_stick (ear_cons (er_var rfl (Rp.mono _ e hx)) (ear_cons (er_var rfl rfl) ear_nil)) (by omega)), fun _ => er_var rfl rfl⟩)
theorem bd_options (T : Txt K mg C) (x : Mi.Se) (now : Nat) {vs : List V} (hv : All2 G [dSe C x, dN now] vs) (hk : Mi.SeOk x now) : St (t_options K C) (start N_options vs) G noN (dMI (Mi.options x now)) := by
  obtain ⟨a, b, rfl, hx, rfl⟩ := hv.inv2
  refine q_asgR (ca_stuck_ticks (ear_cons (er_var rfl hx) (ear_cons (er_var rfl rfl) ear_nil)) hk) fun y G2 e hy => ?_
  refine q_if (et_test (ev_eq (ev_lenM (er_var rfl hy)) ev_c)) (fun h => st_ret ?_) fun h => st_ret ?_
  · have h1 : Mi.stuckTicks x now = [] := List.eq_nil_of_length_eq_zero (by have := of_decide_eq_true h; omega)
    unfold Mi.options
    rw [h1]
    exact er_lst (Rs := [dI 0, dI 1, dI 2, dI 3]) (ear_cons (er_v ev_c) (ear_cons (er_v ev_c) (ear_cons (er_v ev_c) (ear_cons (er_v ev_c) ear_nil)))) (by show 4 ≤ 100000; decide)
  · have h1 := of_decide_eq_false h
    unfold Mi.options
    cases ht : Mi.stuckTicks x now with
    | nil => exact (h1 (by rw [ht]; rfl)).elim
    | cons t r =>
      have hi : Ev (tOp (rIxL K) (tVar 2) (tC (.int 0))) [some a, some (.int (now : Int)), some y] G2 (.int (t : Int)) := by
        have q := ev_ixD (K := K) (n := 0) (g := fun (n : Nat) => V.int (n : Int)) (d := 0) (er_l (er_var (i := 2) (σ := [some a, some (.int (now : Int)), some y]) rfl hy)) (ev_c (v := .int 0)) (by rw [ht]; exact Nat.zero_lt_succ _)
        rw [ht] at q
        exact q
      exact er_lst (Rs := [dI 0, dI (100 + (t : Int)), dI 1, dI 2, dI 3]) (ear_cons (er_v ev_c) (ear_cons (er_v (ev_add ev_c hi)) (ear_cons (er_v ev_c) (ear_cons (er_v ev_c) (ear_cons (er_v ev_c) ear_nil))))) (by show 5 ≤ 100000; decide)
theorem bd_may_have (T : Txt K mg C) (x : Mi.Se) (f : Int) (now : Nat) {vs : List V} (hv : All2 G [dSe C x, dI f, dN now] vs) (hk : Mi.SeOk x now) : St (t_may_have K C) (start N_may_have vs) G noN (dV (.bl (Mi.mayHave x f now))) := by
  obtain ⟨a, b, c, rfl, hx, rfl, rfl⟩ := hv.inv3
  have h3 := hk.hl
  have h4 := hk.hn
  unfold Mi.mayHave
  refine q_if (et_test (ev_lt (ev_var rfl) ev_c)) (fun h => st_ret (er_v ?_)) fun h => ?_
  · rw [if_pos (of_decide_eq_true h)]
    exact ev_c
  have hf := of_decide_eq_false h
  rw [if_neg hf]
  have e : f - 100 = (((f - 100).toNat : Nat) : Int) := by omega
  refine q_asgV (v := .int (((f - 100).toNat : Nat) : Int)) (ev_eqv (ev_sub (ev_var rfl) ev_c) e) (st_ret (er_v (ev_andV (ev_to (ev_chain (ev_first T (er_var rfl hx)) (ev_var rfl) (ev_var rfl)) ?_) fun _ => ca_can_stick (ear_cons (er_var rfl hx) (ear_cons (er_var rfl rfl) ear_nil)) (by omega))))
  rw [← Bool.decide_and]
  exact dec_iff (by omega)
theorem bd_reading_about (T : Txt K mg C) (x : Mi.Se) (f : Int) (t : Nat) (now : Nat) {vs : List V} (hv : All2 G [dSe C x, dI f, dN t, dN now] vs) (hk : Mi.SeOk x now ∧ 0 ≤ f ∧ t ≤ now) : St (t_reading_about K C) (start N_reading_about vs) G noN (dV (.int (Mi.readingAbout x f t now))) := by
  obtain ⟨a, b, c, d, rfl, hx, rfl, rfl, rfl⟩ := hv.inv4
  obtain ⟨hk, hf, ht⟩ := hk
  have h3 := hk.hl
  unfold Mi.readingAbout
  refine q_if (et_test (ev_lt (ev_var rfl) (ev_first T (er_var rfl hx)))) (fun h => st_ret (er_v ?_)) fun h => ?_
  · rw [if_pos (by have := of_decide_eq_true h; omega)]
    exact ev_c
  rw [if_neg (by have := of_decide_eq_false h; omega)]
  refine q_if (et_test (ev_ge (ev_var rfl) ev_c)) (fun h => st_ret (er_v ?_)) fun h => ?_
  · rw [if_pos (of_decide_eq_true h)]
    refine ev_if (et_test (ev_lt (ev_var rfl) (ev_sub (ev_var rfl) ev_c))) (fun h2 => ?_) fun h2 => ?_
    · rw [if_pos (of_decide_eq_true h2)]
      exact ev_ixD (g := V.int) (er_l (er_readings T (er_var rfl hx))) (ev_var rfl) (by omega)
    · rw [if_neg (of_decide_eq_false h2)]
      exact ev_c
  have h1 := of_decide_eq_false h
  rw [if_neg h1]
  refine q_if (et_test (ev_gt (ev_add (ev_var rfl) (ev_var rfl)) (ev_var rfl))) (fun h => st_ret (er_v ?_)) fun h => st_ret (er_v ?_)
  · rw [if_pos (of_decide_eq_true h)]
    exact ev_c
  · have h2 := of_decide_eq_false h
    rw [if_neg h2]
    exact ev_ixD (g := V.int) (er_l (er_readings T (er_var rfl hx))) (ev_eqv (ev_add (ev_var rfl) (ev_var rfl)) (show (t : Int) + f = ((t + f.toNat : Nat) : Int) by omega)) (by omega)
theorem bd_agrees (T : Txt K mg C) (x : Mi.Se) (n : Int) (p : Nat) {vs : List V} (hv : All2 G [dSe C x, dI n, dN p] vs) (hk : True) : St (t_agrees K C) (start N_agrees vs) G noN (dV (.bl (Mi.agrees x n p))) := by
  obtain ⟨a, b, c, rfl, hx, rfl, rfl⟩ := hv.inv3
  unfold Mi.agrees
  exact st_ret (er_v (ev_orV (ev_eq (ev_var rfl) ev_c) fun _ => ev_to (ev_le (ev_abs (ev_sub (ev_var rfl) (ev_var rfl))) (ev_error T (er_var rfl hx))) (dec_iff (by omega))))
theorem bd_sight (T : Txt K mg C) (x : Mi.Se) (f : Int) (size : Nat) (now : Nat) {vs : List V} (hv : All2 G [dSe C x, dI f, dN size, dN now] vs) (hk : Mi.SeOk x now ∧ 0 ≤ f ∧ size ≤ 8) : St (t_sight K C) (start N_sight vs) G noN (dM ((Mi.sight x f size now).map (dRow K))) := by
  obtain ⟨a, b, c, d, rfl, hx, rfl, rfl, rfl⟩ := hv.inv4
  obtain ⟨hk, hf, hs⟩ := hk
  have hn := hk.hn
  refine q_build (Rs := []) (fun p σ2 G2 ys => (∃ y5 y6, σ2 = [some a, some (.int f), some (.int (size : Int)), some (.int (now : Int)), some (.ref p), y5, y6, none]) ∧ All2 G2 ((Mi.sight x f size now).map (dRow K)) ys) ear_nil (Nat.zero_le _) (fun p xs0 G1 e1 h0 => ?_) (fun p σ2 G2 ys e2 hp2 hn => ?_)
  · cases h0
    refine StB.to (sb_forR1 (now + 1) (fun i σ' G' ys => (∃ y5 y6, σ' = [some a, some (.int f), some (.int (size : Int)), some (.int (now : Int)), some (.ref p), y5, y6, none]) ∧ All2 G' (((List.range i).map fun t => (List.range size).filter (Mi.agrees x (Mi.readingAbout x f t now))).map (dRow K)) ys)
      (ea_cons (ev_eqv (ev_add (ev_var rfl) ev_c) (by omega)) ea_nil) (by omega) ⟨⟨none, none, rfl⟩, .nil⟩ fun i σ' G' ys hi e2 ⟨⟨y5, y6, es⟩, hys⟩ => ?_) fun σ2 G2 ys _ h => h
    subst es
    refine ⟨_, tg_name, sb_asgR (ca_reading_about (ear_cons (er_var rfl (Rp.mono _ (e1.trans e2) hx)) (ear_cons (er_var rfl rfl) (ear_cons (er_var rfl rfl) (ear_cons (er_var rfl rfl) ear_nil)))) ⟨hk, hf, by omega⟩ |> er_v) fun w G2 e3 hw => ?_⟩
    refine sb_app rfl (er_lcR1 size (Mi.agrees x (Mi.readingAbout x f i now)) dN (by omega) (ea_cons (ev_var rfl) ea_nil)
      fun k G1 hk1 e4 => ⟨_, tg_name, rfl, et_B (ca_agrees (ear_cons (er_var rfl (Rp.mono _ (((e1.trans e2).trans e3).trans e4) hx)) (ear_cons (er_var rfl hw) (ear_cons (er_var rfl rfl) ear_nil)))), fun _ => er_var rfl rfl⟩) ?_ fun v2 G3 e4 hr => ?_
    · rw [hys.length, List.length_map, List.length_map, List.length_range]
      omega
    · refine ⟨⟨_, _, rfl⟩, ?_⟩
      rw [range_snoc, List.map_append]
      exact (hys.mono (e3.trans e4)).append (.one (dM_ls hr))
  · obtain ⟨⟨y5, y6, rfl⟩, hys⟩ := hn
    exact st_ret (er_var rfl ⟨p, ys, rfl, upd_same, hys.mono (Ex.new hp2)⟩)
theorem bd_whole (T : Txt K mg C) (size : Nat) (now : Nat) {vs : List V} (hv : All2 G [dN size, dN now] vs) (hk : size ≤ 8 ∧ now ≤ 24) : St (t_whole K C) (start N_whole vs) G noN (dM ((Mi.whole size now).map (dRow K))) := by
  obtain ⟨a, b, rfl, rfl, rfl⟩ := hv.inv2
  unfold Mi.whole
  rw [List.map_map]
  exact st_ret (er_items (f := fun _ => dM ((List.range size).map dN)) (er_all (er_lcR1 (now + 1) (fun _ => true) (fun _ => dM ((List.range size).map dN)) (by omega) (ea_cons (ev_eqv (ev_add (ev_var rfl) ev_c) (by omega)) ea_nil)
    fun k G1 hk1 e => ⟨_, tg_name, rfl, et_yes, fun _ => er_listRg (ev_var rfl) (by omega)⟩)) fun _ _ _ q => dM_ls q)
theorem bd_overlap (T : Txt K mg C) (a : List (List Nat)) (b : List (List Nat)) {vs : List V} (hv : All2 G [dRows K a, dRows K b] vs) (hk : a.length = b.length ∧ a.length ≤ 100 ∧ ∀ l ∈ a, l.length ≤ 100) : St (t_overlap K C) (start N_overlap vs) G noN (dM ((Mi.overlap a b).map (dRow K))) := by
  obtain ⟨x, y, rfl, ha, hb⟩ := hv.inv2
  obtain ⟨hl, h100, hrow⟩ := hk
  have hz : (a.zip b).length = a.length := by rw [List.length_zip]; omega
  refine q_build (Rs := []) (fun p σ2 G2 ys => (∃ y3 y4, σ2 = [some x, some y, some (.ref p), y3, y4, none]) ∧ All2 G2 ((Mi.overlap a b).map (dRow K)) ys) ear_nil (Nat.zero_le _) (fun p xs0 G1 e1 h0 => ?_) (fun p σ2 G2 ys e2 hp2 hn => ?_)
  · cases h0
    refine StB.to (sb_forZ a b (dRow K) (dRow K) (fun i σ' G' ys => (∃ y3 y4, σ' = [some x, some y, some (.ref p), y3, y4, none]) ∧ All2 G' ((((a.zip b).take i).map fun (x : List Nat × List Nat) => x.1.filter fun p => x.2.contains p).map (dRow K)) ys) hl
      (ear_cons (er_var rfl (Rp.mono _ e1 ha)) (ear_cons (er_var rfl (Rp.mono _ e1 hb)) ear_nil)) (fun _ _ => ⟨⟨none, none, rfl⟩, .nil⟩) (fun _ _ _ _ _ e ⟨q1, q2⟩ => ⟨q1, q2.mono e⟩) fun i u v s t Ta σ' G' ys hu hw e2 hs ht hT ⟨⟨y3, y4, es⟩, hys⟩ => ?_) fun σ2 G2 ys _ ⟨h1, h2⟩ => ⟨h1, ?_⟩
    · subst es
      have hk : (a.zip b)[i]? = some (u, v) := by
        rw [List.getElem?_zip_eq_some]
        exact ⟨hu, hw⟩
      have hi : i < a.length := (List.getElem?_eq_some_iff.mp hu).1
      refine ⟨_, tg_two rfl hT, sb_app rfl (er_lc u dN (fun p => v.contains p) dN (Nat.le_trans (hrow u (List.mem_of_getElem? hu)) (by decide)) (er_var rfl hs)
        fun n w G1 _ e3 hw => ⟨_, tg_name, rfl, et_test (ev_to (ev_inR (ev_r (er_var rfl hw)) (er_var rfl (Rp.mono _ e3 ht))) (any_contains n v)), fun _ => er_var rfl hw⟩) ?_ fun v2 G3 e4 hr => ?_⟩
      · rw [hys.length, List.length_map, List.length_map, List.length_take]
        omega
      · refine ⟨⟨_, _, rfl⟩, ?_⟩
        rw [take_succ hk, List.map_append, List.map_append]
        exact (hys.mono e4).append (.one (dM_ls hr))
    · rw [← hz, List.take_length] at h2
      exact h2
  · obtain ⟨⟨y3, y4, rfl⟩, hys⟩ := hn
    exact st_ret (er_var rfl ⟨p, ys, rfl, upd_same, hys.mono (Ex.new hp2)⟩)
theorem bd_count_faults (T : Txt K mg C) (fs : List Int) {vs : List V} (hv : All2 G [dInts K fs] vs) (hk : fs.length ≤ 1000) : St (t_count_faults K C) (start N_count_faults vs) G noN (dV (.int (Mi.countFaults fs : Nat))) := by
  obtain ⟨a, rfl, ha⟩ := hv.inv1
  exact st_ret (er_v (ev_lenM (er_lc fs dI (fun f => !decide (f = 0)) dI (by omega) (er_var rfl ha) fun n w G1 _ e hw => ⟨_, tg_name, rfl, et_test (ev_ne (ev_r (er_var rfl hw)) ev_c), fun _ => er_var rfl hw⟩)))
end
end Sk
/-! part MiWays -/
namespace Mi
theorem options_len (x : Se) (now : Nat) : (options x now).length ≤ 5 := by
  unfold options
  split
  · show 4 ≤ 5
    decide
  · show 5 ≤ 5
    decide
theorem options_ok {x : Se} {now : Nat} : ∀ f ∈ options x now, FaultOk f := by
  intro f hf
  unfold options at hf
  split at hf
  · simp only [List.mem_cons, List.not_mem_nil, or_false] at hf
    unfold FaultOk
    omega
  · simp only [List.mem_cons, List.not_mem_nil, or_false] at hf
    unfold FaultOk
    omega
theorem sight_len {x : Se} {f : Int} {size now : Nat} : (sight x f size now).length = now + 1 := by
  unfold sight
  rw [List.length_map, List.length_range]
theorem sight_row {x : Se} {f : Int} {size now : Nat} : ∀ l ∈ sight x f size now, l.length ≤ size := by
  intro l hl
  unfold sight at hl
  obtain ⟨t, _, rfl⟩ := List.mem_map.mp hl
  have h := List.length_filter_le (agrees x (readingAbout x f t now)) (List.range size)
  rw [List.length_range] at h
  exact h
theorem whole_len {size now : Nat} : (whole size now).length = now + 1 := by
  unfold whole
  rw [List.length_map, List.length_range]
theorem whole_row {size now : Nat} : ∀ l ∈ whole size now, l.length ≤ size := by
  intro l hl
  unfold whole at hl
  obtain ⟨t, _, rfl⟩ := List.mem_map.mp hl
  rw [List.length_range]
  exact Nat.le_refl _
theorem overlap_len {a b : List (List Nat)} (h : a.length = b.length) : (overlap a b).length = a.length := by
  unfold overlap
  rw [List.length_map, List.length_zip]
  omega
theorem overlap_row {a b : List (List Nat)} {n : Nat} (h : ∀ l ∈ a, l.length ≤ n) : ∀ l ∈ overlap a b, l.length ≤ n := by
  intro l hl
  unfold overlap at hl
  obtain ⟨x, hx, rfl⟩ := List.mem_map.mp hl
  have h1 := h x.1 (List.of_mem_zip hx).1
  exact Nat.le_trans (List.length_filter_le _ _) h1
/-- a way of the sensors xs -/
structure WayIs (xs : List Se) (now : Nat) (w : Way) : Prop where
  n : w.1.length = xs.length
  f : ∀ f ∈ w.1, FaultOk f
  len : w.2.length = now + 1
  row : ∀ l ∈ w.2, l.length ≤ 8
theorem WayIs.ok {xs : List Se} {now : Nat} {w : Way} (h : WayIs xs now w) (hx : xs.length ≤ 100) : WayOk w now := ⟨by rw [h.n]; exact hx, h.len, fun l hl => Nat.le_trans (h.row l hl) (by decide)⟩
theorem widened_is {ps : List Way} {x : Se} {size now most : Nat} {xs : List Se} (h : ∀ w ∈ ps, WayIs xs now w) : ∀ w ∈ widened ps x size now most, WayIs (xs ++ [x]) now w := by
  intro w hw
  unfold widened at hw
  obtain ⟨u, hu, hw⟩ := List.mem_flatMap.mp hw
  obtain ⟨f, hf, rfl⟩ := List.mem_map.mp hw
  have hu := h u hu
  refine ⟨?_, fun g hg => ?_, ?_, ?_⟩
  · show (u.1 ++ [f]).length = _
    rw [List.length_append, List.length_append, hu.n]
    rfl
  · rcases List.mem_append.mp hg with q | q
    · exact hu.f g q
    · rw [List.mem_singleton.mp q]
      exact options_ok f (List.mem_filter.mp hf).1
  · show (overlap u.2 _).length = _
    rw [overlap_len (by rw [hu.len, sight_len]), hu.len]
  · exact overlap_row hu.row
theorem flatMap_len {α β : Type} {g : α → List β} {n : Nat} : ∀ {l : List α}, (∀ a ∈ l, (g a).length ≤ n) → (l.flatMap g).length ≤ l.length * n
  | [], _ => Nat.zero_le _
  | a :: l, h => by
    rw [List.flatMap_cons, List.length_append, List.length_cons, Nat.add_mul, Nat.one_mul]
    have h1 := h a List.mem_cons_self
    have h2 := flatMap_len (l := l) fun b hb => h b (List.mem_cons_of_mem _ hb)
    omega
theorem widened_len {ps : List Way} {x : Se} {size now most : Nat} : (widened ps x size now most).length ≤ ps.length * 5 := flatMap_len fun w _ => by
  rw [List.length_map]
  exact Nat.le_trans (List.length_filter_le _ _) (options_len x now)
theorem fold_is {size now most : Nat} : ∀ (zs xs : List Se) (ps : List Way), (∀ w ∈ ps, WayIs xs now w) → ps.length ≤ 5 ^ xs.length →
    (∀ w ∈ zs.foldl (fun ps x => widened ps x size now most) ps, WayIs (xs ++ zs) now w) ∧ (zs.foldl (fun ps x => widened ps x size now most) ps).length ≤ 5 ^ (xs ++ zs).length
  | [], xs, ps, h, hl => by
    rw [List.append_nil]
    exact ⟨h, hl⟩
  | z :: zs, xs, ps, h, hl => by
    have e : xs ++ z :: zs = (xs ++ [z]) ++ zs := by rw [List.append_assoc]; rfl
    rw [e]
    refine fold_is zs (xs ++ [z]) _ (widened_is h) (Nat.le_trans widened_len ?_)
    rw [List.length_append]
    show ps.length * 5 ≤ 5 ^ (xs.length + 1)
    rw [Nat.pow_succ]
    exact Nat.mul_le_mul_right 5 hl
theorem start_is {size now : Nat} (hs : size ≤ 8) : ∀ w ∈ [(([], whole size now) : Way)], WayIs [] now w := by
  intro w hw
  rw [List.mem_singleton.mp hw]
  exact ⟨rfl, fun f hf => (by cases hf), whole_len, fun l hl => Nat.le_trans (whole_row l hl) hs⟩
theorem pr_at {r : Ro} (h : Ok r) {p : Nat} (hp : p < r.props.length) : 2 ≤ (prAt r p).size ∧ (prAt r p).size ≤ 8 ∧ (prAt r p).moves.length = r.now + 1 := by
  have e : prAt r p = r.props[p] := by
    unfold prAt
    rw [List.getD_eq_getElem?_getD, List.getElem?_eq_getElem hp]
    rfl
  rw [e]
  exact h.pr _ (List.getElem_mem hp)
theorem se_mem {r : Ro} {i : Nat} (hi : i < r.sensors.length) : seAt r i ∈ r.sensors := by
  have e : seAt r i = r.sensors[i] := by
    unfold seAt
    rw [List.getD_eq_getElem?_getD, List.getElem?_eq_getElem hi]
    rfl
  rw [e]
  exact List.getElem_mem hi
theorem se_ok {r : Ro} (h : Ok r) {x : Se} (hx : x ∈ r.sensors) : SeOk x r.now := ⟨h.now, (h.se x hx).2.2.1, (h.se x hx).2.2.2⟩
theorem sensors_ok {r : Ro} (h : Ok r) {p : Nat} : ∀ x ∈ sensorsOf r p, SeOk x r.now := fun x hx => se_ok h (List.mem_filter.mp hx).1
theorem pow5 {n : Nat} (h : n ≤ 4) : 5 ^ n ≤ 625 := Nat.pow_le_pow_right (by decide) h
theorem possible_is {r : Ro} (h : Ok r) {p : Nat} (hp : p < r.props.length) : (∀ w ∈ possible r p, WayIs (sensorsOf r p) r.now w) ∧ (possible r p).length ≤ 625 := by
  have q := fold_is (size := (prAt r p).size) (now := r.now) (most := r.most) (sensorsOf r p) [] _ (start_is (now := r.now) (pr_at h hp).2.1) (Nat.le_refl _)
  refine ⟨fun w hw => q.1 w (List.mem_filter.mp hw).1, Nat.le_trans (List.length_filter_le _ _) (Nat.le_trans q.2 (pow5 (h.one p)))⟩
theorem rowsOk_of {r : Ro} (h : Ok r) {p : Nat} (hp : p < r.props.length) {xs : List Se} {w : Way} (hw : WayIs xs r.now w) : RowsOk (prAt r p).moves w.2 := by
  have h1 := (pr_at h hp).2.2
  have h2 := h.now
  exact ⟨by rw [hw.len, h1], by omega, by omega, fun l hl => Nat.le_trans (hw.row l hl) (by decide)⟩
theorem all_len {r : Ro} : (allPossible r).length = r.props.length := by
  unfold allPossible
  rw [List.length_map, List.length_range]
theorem waysOk_possible {r : Ro} (h : Ok r) {p : Nat} (hp : p < r.props.length) : WaysOk (possible r p) := by
  have q := possible_is h hp
  refine ⟨Nat.le_trans q.2 (by decide), fun w hw => ?_⟩
  rw [(q.1 w hw).n]
  exact Nat.le_trans (h.one p) (by decide)
theorem waysOk_all {r : Ro} (h : Ok r) : ∀ ws ∈ allPossible r, WaysOk ws := by
  intro ws hws
  unfold allPossible at hws
  obtain ⟨p, hp, rfl⟩ := List.mem_map.mp hws
  exact waysOk_possible h (List.mem_range.mp hp)
theorem left_len {r : Ro} : (allLeft r).length = r.props.length := by
  unfold allLeft
  simp only
  split
  · rw [List.length_map, List.length_zip, all_len]
    unfold fewestEach
    rw [List.length_map, all_len, Nat.min_self]
  · rw [List.length_map, all_len]
theorem left_mem {r : Ro} {p : Nat} (hp : p < r.props.length) : ∀ w ∈ leftOf r p, w ∈ possible r p := by
  intro w hw
  unfold leftOf at hw
  have e : (allPossible r)[p]? = some (possible r p) := by
    unfold allPossible
    rw [List.getElem?_map, List.getElem?_range hp]
    rfl
  unfold allLeft at hw
  simp only at hw
  split at hw
  · rw [List.getD_eq_getElem?_getD, List.getElem?_map] at hw
    have e2 : (fewestEach (allPossible r))[p]? = some (fewestOf (possible r p)) := by
      unfold fewestEach
      rw [List.getElem?_map, e]
      rfl
    have e3 : ((allPossible r).zip (fewestEach (allPossible r)))[p]? = some (possible r p, fewestOf (possible r p)) := by
      rw [List.getElem?_zip_eq_some]
      exact ⟨e, e2⟩
    rw [e3] at hw
    exact (List.mem_filter.mp hw).1
  · rw [List.getD_eq_getElem?_getD, List.getElem?_map, e] at hw
    cases hw
theorem leftOf_len {r : Ro} (h : Ok r) {p : Nat} (hp : p < r.props.length) : (leftOf r p).length ≤ 625 := by
  have q := (possible_is h hp).2
  have e : (allPossible r)[p]? = some (possible r p) := by
    unfold allPossible
    rw [List.getElem?_map, List.getElem?_range hp]
    rfl
  unfold leftOf allLeft
  simp only
  split
  · rw [List.getD_eq_getElem?_getD, List.getElem?_map]
    have e2 : (fewestEach (allPossible r))[p]? = some (fewestOf (possible r p)) := by
      unfold fewestEach
      rw [List.getElem?_map, e]
      rfl
    have e3 : ((allPossible r).zip (fewestEach (allPossible r)))[p]? = some (possible r p, fewestOf (possible r p)) := by
      rw [List.getElem?_zip_eq_some]
      exact ⟨e, e2⟩
    rw [e3]
    exact Nat.le_trans (List.length_filter_le _ _) q
  · rw [List.getD_eq_getElem?_getD, List.getElem?_map, e]
    exact Nat.zero_le _
theorem left_is {r : Ro} (h : Ok r) {p : Nat} (hp : p < r.props.length) : ∀ w ∈ leftOf r p, WayIs (sensorsOf r p) r.now w := fun w hw => (possible_is h hp).1 w (left_mem hp w hw)
theorem left_course {r : Ro} {p : Nat} (hp : p < r.props.length) : ∀ w ∈ leftOf r p, hasCourse (prAt r p).moves w.2 = true := fun w hw => (List.mem_filter.mp (left_mem hp w hw)).2
theorem waysOk_left {r : Ro} (h : Ok r) {p : Nat} (hp : p < r.props.length) : WaysOk (leftOf r p) := by
  refine ⟨Nat.le_trans (leftOf_len h hp) (by decide), fun w hw => ?_⟩
  rw [(left_is h hp w hw).n]
  exact Nat.le_trans (h.one p) (by decide)
end Mi
/-! part W6 -/
namespace Sk
open PySem PySem.Spec PyProof.Rows L2 Evl
section
variable {K : PySem.W.Frag} {mg : Str → Option Value} {C : Cs} {G : Hp} {σ : L2.St} {te tb : TE}
theorem er_catL {α : Type} {f : α → Rp} {l m : List α} {ta : TE} (ha : EvR ta σ G (dM (l.map f))) (hb : EvR tb σ G (dM (m.map f))) (hl : l.length + m.length ≤ 1000000) : EvR (tOp rCat ta tb) σ G (dM ((l ++ m).map f)) := by
  rw [List.map_append]
  exact er_cat ha hb (by rw [List.length_map, List.length_map]; exact hl)
theorem bd_widened (T : Txt K mg C) (ps : List Mi.Way) (x : Mi.Se) (size : Nat) (now : Nat) (most : Nat) {vs : List V} (hv : All2 G [dWays K ps, dSe C x, dN size, dN now, dN most] vs) (hk : ps.length ≤ 1000 ∧ (∀ w ∈ ps, Mi.WayOk w now) ∧ Mi.SeOk x now ∧ size ≤ 8) : St (t_widened K C) (start N_widened vs) G noN (dM ((Mi.widened ps x size now most).map (dWay K))) := by
  obtain ⟨a, b, c, d, m, rfl, hp, hx, rfl, rfl, rfl⟩ := hv.inv5
  obtain ⟨hl, hw, hse, hs⟩ := hk
  have hol := Mi.options_len x now
  refine q_asgR (er_all (er_lc (Mi.options x now) dI (fun _ => true) (fun f => dTp K [dI f, dM ((Mi.sight x f size now).map (dRow K))]) (by omega) (er_l (ca_options (ear_cons (er_var rfl hx) (ear_cons (er_var rfl rfl) ear_nil)) hse))
    fun f w G1 hf e hw => ⟨_, tg_name, rfl, et_yes, fun _ => er_tup (ear_cons (er_var rfl hw) (ear_cons (ca_sight (ear_cons (er_var rfl (Rp.mono _ e hx)) (ear_cons (er_var rfl hw) (ear_cons (er_var rfl rfl) (ear_cons (er_var rfl rfl) ear_nil)))) ⟨hse, (Mi.options_ok f hf).1, hs⟩) ear_nil)) (by show 2 ≤ 100000; decide)⟩)) fun y G2 e hy => ?_
  have hp2 := Rp.mono _ e hp
  refine q_build (Rs := []) (fun p σ2 G2 ys => (∃ y7 y8 y9 y10 y11, σ2 = [some a, some b, some (.int (size : Int)), some (.int (now : Int)), some (.int (most : Int)), some y, some (.ref p), y7, y8, y9, y10, y11]) ∧ All2 G2 ((Mi.widened ps x size now most).map (dWay K)) ys) ear_nil (Nat.zero_le _) (fun p xs0 G1 e1 h0 => ?_) (fun p σ2 G2 ys e2 hp2 hn => ?_)
  · cases h0
    have hmk : ∀ w : Mi.Way, (((Mi.options x now).filter fun f => decide (Mi.countFaults (w.1 ++ [f]) ≤ most)).map fun f => (w.1 ++ [f], Mi.overlap w.2 (Mi.sight x f size now))).length ≤ 5 := fun w => by
      rw [List.length_map]
      exact Nat.le_trans (List.length_filter_le _ _) hol
    refine StB.to (sb_for ps (dWay K) (fun i σ' G' ys => (∃ y7 y8 y9 y10 y11, σ' = [some a, some b, some (.int (size : Int)), some (.int (now : Int)), some (.int (most : Int)), some y, some (.ref p), y7, y8, y9, y10, y11]) ∧ All2 G' ((Mi.widened (ps.take i) x size now most).map (dWay K)) ys)
      (er_var rfl (Rp.mono _ e1 hp2)) (fun _ _ => ⟨⟨none, none, none, none, none, rfl⟩, .nil⟩) fun i w v σ' G' ys hi e2 hv ⟨⟨y7, y8, y9, y10, y11, es⟩, hys⟩ => ?_) fun σ2 G2 ys _ ⟨h1, h2⟩ => ⟨h1, by rw [List.take_length] at h2; exact h2⟩
    subst es
    obtain ⟨t, fs, al, ev, ht, hfs, hal⟩ := tp_two hv
    have hwm : w ∈ ps := List.mem_of_getElem? hi
    have hwo := hw w hwm
    have hil : i < ps.length := (List.getElem?_eq_some_iff.mp hi).1
    refine ⟨_, tg_two ev ht, ?_⟩
    have hpre : (Mi.widened (ps.take i) x size now most).length ≤ i * 5 := by
      refine Nat.le_trans (Mi.flatMap_len fun w _ => hmk w) ?_
      rw [List.length_take]
      exact Nat.mul_le_mul_right 5 (Nat.min_le_left _ _)
    refine StB.to (sb_for (Mi.options x now) (fun f => dTp K [dI f, dM ((Mi.sight x f size now).map (dRow K))]) (fun k σ' G' ys => (∃ y9 y10 y11, σ' = [some a, some b, some (.int (size : Int)), some (.int (now : Int)), some (.int (most : Int)), some y, some (.ref p), some fs, some al, y9, y10, y11]) ∧
        All2 G' ((Mi.widened (ps.take i) x size now most ++ (((Mi.options x now).take k).filter fun f => decide (Mi.countFaults (w.1 ++ [f]) ≤ most)).map fun f => (w.1 ++ [f], Mi.overlap w.2 (Mi.sight x f size now))).map (dWay K)) ys)
      (er_l (er_var rfl (Rp.mono _ (e1.trans e2) hy))) (fun G3 e3 => ⟨⟨y9, y10, y11, rfl⟩, by
        rw [List.take_zero, List.filter_nil, List.map_nil, List.append_nil]
        exact hys.mono e3⟩) fun k f v2 σ' G' ys hk e3 hv2 ⟨⟨y9, y10, y11, es⟩, hys⟩ => ?_) fun σ2 G2 ys _ ⟨⟨y9, y10, y11, h1⟩, h2⟩ => ⟨⟨_, _, _, _, _, h1⟩, ?_⟩
    · subst es
      obtain ⟨t2, f', rw', ev2, ht2, hf', hrw⟩ := tp_two hv2
      have hkl : k < (Mi.options x now).length := (List.getElem?_eq_some_iff.mp hk).1
      refine ⟨_, tg_two ev2 ht2, sb_asgR (S := dMI (w.1 ++ [f])) (er_catL (m := [f]) (er_var rfl (Rp.mono _ e3 hfs)) (er_lst (Rs := [dI f]) (ear_cons (er_var rfl hf') ear_nil) (by show 1 ≤ 100000; decide)) (by
        have := hwo.faults
        show _ + 1 ≤ _
        omega)) fun z G4 e4 hz => ?_⟩
      have hys4 := hys.mono e4
      have eq1 : (((Mi.options x now).take (k + 1)).filter fun f => decide (Mi.countFaults (w.1 ++ [f]) ≤ most)) = ((Mi.options x now).take k).filter (fun f => decide (Mi.countFaults (w.1 ++ [f]) ≤ most)) ++ if decide (Mi.countFaults (w.1 ++ [f]) ≤ most) = true then [f] else [] := by
        rw [take_succ hk, List.filter_append, List.filter_cons]
        rfl
      refine sb_if (b := decide (Mi.countFaults (w.1 ++ [f]) ≤ most)) (et_test (ev_to (ev_le (ca_count_faults (ear_cons (er_var rfl (dM_ls hz)) ear_nil) (by
        rw [List.length_append]
        have := hwo.faults
        show _ + 1 ≤ _
        omega)) (ev_var rfl)) (dec_iff (by omega)))) (fun q => ?_) fun q => ?_
      · refine sb_app rfl (er_tup (K := K) (ear_cons (er_var rfl hz) (ear_cons (ca_overlap (ear_cons (er_var rfl (Rp.mono _ (e3.trans e4) hal)) (ear_cons (er_var rfl (dM_ls (Rp.mono _ e4 hrw))) ear_nil)) ⟨by rw [hwo.len, Mi.sight_len], by rw [hwo.len]; have := hse.hn; omega, hwo.row⟩) ear_nil)) (by show 2 ≤ 100000; decide)) ?_ fun v5 G5 e5 hr => ?_
        · rw [hys4.length, List.length_map, List.length_append, List.length_map]
          have h1 := List.length_filter_le (fun f => decide (Mi.countFaults (w.1 ++ [f]) ≤ most)) ((Mi.options x now).take k)
          have h2 : ((Mi.options x now).take k).length ≤ k := by rw [List.length_take]; exact Nat.min_le_left _ _
          omega
        · refine ⟨⟨_, _, _, rfl⟩, ?_⟩
          have e6 : ∀ (pre : List Mi.Way) (F : List Int) (mk : Int → Mi.Way), pre ++ (F ++ [f]).map mk = (pre ++ F.map mk) ++ [mk f] := fun pre F mk => by
            rw [List.map_append, ← List.append_assoc]
            rfl
          rw [eq1, if_pos q, e6, List.map_append]
          obtain ⟨ta, xs, hta, hts, htx⟩ := hr
          obtain ⟨u1, u2, rfl, hu1, hu2⟩ := htx.inv2
          exact (hys4.mono e5).append (.one ⟨ta, [u1, u2], hta, hts, .cons hu1 (.cons (dM_ls hu2) .nil)⟩)
      · refine sb_next ⟨⟨_, _, _, rfl⟩, ?_⟩
        rw [eq1, if_neg (by rw [q]; exact Bool.false_ne_true), List.append_nil]
        exact hys4
    · rw [List.take_length] at h2
      have e5 : Mi.widened (ps.take (i + 1)) x size now most = Mi.widened (ps.take i) x size now most ++ ((Mi.options x now).filter fun f => decide (Mi.countFaults (w.1 ++ [f]) ≤ most)).map fun f => (w.1 ++ [f], Mi.overlap w.2 (Mi.sight x f size now)) := by
        unfold Mi.widened
        rw [take_succ hi, List.flatMap_append, List.flatMap_cons, List.flatMap_nil, List.append_nil]
      rw [e5]
      exact h2
  · obtain ⟨⟨y7, y8, y9, y10, y11, rfl⟩, hys⟩ := hn
    exact st_ret (er_var rfl ⟨p, ys, rfl, upd_same, hys.mono (Ex.new hp2)⟩)
end
end Sk
/-! part W7 -/
namespace Sk
open PySem PySem.Spec PyProof.Rows L2 Evl
section
variable {K : PySem.W.Frag} {mg : Str → Option Value} {C : Cs} {G : Hp} {σ : L2.St} {te tb : TE}
theorem bd_possible (T : Txt K mg C) (r : Mi.Ro) (p : Nat) {vs : List V} (hv : All2 G [dRo K C r, dN p] vs) (hk : Mi.Ok r ∧ p < r.props.length) : St (t_possible K C) (start N_possible vs) G noN (dM ((Mi.possible r p).map (dWay K))) := by
  obtain ⟨a, b, rfl, hr, rfl⟩ := hv.inv2
  obtain ⟨hk, hp⟩ := hk
  have hpr := Mi.pr_at hk hp
  have hnow := hk.now
  refine q_asgV (ev_size T (er_ixD (d := ⟨0, []⟩) (er_props T (er_var rfl hr)) (ev_var rfl) hp)) ?_
  refine q_asgR (S := dWays K [([], Mi.whole (Mi.prAt r p).size r.now)]) ((er_lst (Rs := [dTp K [dM [], dM ((Mi.whole (Mi.prAt r p).size r.now).map (dRow K))]]) (ear_cons (er_tup (ear_cons (er_lst ear_nil (Nat.zero_le _)) (ear_cons (ca_whole (ear_cons (er_var rfl rfl) (ear_cons (er_v (ev_now T (er_var rfl hr))) ear_nil)) ⟨hpr.2.1, hnow⟩) ear_nil)) (by show 2 ≤ 100000; decide)) ear_nil) (by show 1 ≤ 100000; decide)).imp fun G2 v _ hv => ?_) fun z G2 e hz => ?_
  · obtain ⟨q, xs, ev, hq, hx⟩ := hv
    obtain ⟨x, rfl, hx1⟩ := hx.inv1
    obtain ⟨ta, u1, u2, rfl, hts, hu1, hu2⟩ := tp_two hx1
    exact ⟨q, _, ev, sq_of hq, .one ⟨ta, [u1, u2], rfl, hts, .cons hu1 (.cons (dM_ls hu2) .nil)⟩⟩
  have hr2 := Rp.mono _ e hr
  have hfold := fun i => Mi.fold_is (size := (Mi.prAt r p).size) (now := r.now) (most := r.most) ((Mi.sensorsOf r p).take i) [] _ (Mi.start_is (now := r.now) hpr.2.1) (Nat.le_refl _)
  have h4 := hk.one p
  refine st_seq (st_for (Mi.sensorsOf r p) (dSe C) (fun i σ' G' => (∃ y4 w, σ' = [some a, some (.int (p : Int)), some (.int ((Mi.prAt r p).size : Int)), some w, y4, none, none] ∧ (dWays K (((Mi.sensorsOf r p).take i).foldl (fun ps x => Mi.widened ps x (Mi.prAt r p).size r.now r.most) [([], Mi.whole (Mi.prAt r p).size r.now)])).p G' w))
    (er_l (ca_sensors_of (ear_cons (er_var rfl hr2) (ear_cons (er_var rfl rfl) ear_nil)) hk)) (fun G1 e1 => ⟨none, z, rfl, Rp.mono _ e1 hz⟩) fun i x v σ' G' hi e1 hx ⟨y4, w, es, hw⟩ => ?_) fun σ2 G3 e3 ⟨y4, w, es, hw⟩ => ?_
  · subst es
    have hil : i < (Mi.sensorsOf r p).length := (List.getElem?_eq_some_iff.mp hi).1
    have htl : ((Mi.sensorsOf r p).take i).length ≤ 4 := by
      rw [List.length_take]
      omega
    have hr3 := Rp.mono _ e1 hr2
    refine ⟨_, tg_name, st_asg (ca_widened (ear_cons (er_var rfl hw) (ear_cons (er_var rfl hx) (ear_cons (er_var rfl rfl) (ear_cons (er_v (ev_now T (er_var rfl hr3))) (ear_cons (er_v (ev_most T (er_var rfl hr3))) ear_nil)))))
      ⟨Nat.le_trans (hfold i).2 (by rw [List.nil_append]; exact Nat.le_trans (Mi.pow5 htl) (by decide)), fun w hw => ((hfold i).1 w hw).ok (by rw [List.nil_append]; omega), Mi.sensors_ok hk x (List.mem_of_getElem? hi), hpr.2.1⟩) fun u G4 e4 hu => ⟨_, u, rfl, ?_⟩⟩
    rw [take_succ hi, List.foldl_append]
    exact dM_ls hu
  · subst es
    rw [List.take_length] at hw
    have hr3 := Rp.mono _ e3 hr2
    have hall := (hfold (Mi.sensorsOf r p).length)
    rw [List.take_length, List.nil_append] at hall
    refine q_asgR (er_moves T (er_ixD (d := ⟨0, []⟩) (er_props T (er_var rfl hr3)) (ev_var rfl) hp)) fun m G4 e4 hm => st_ret ?_
    refine er_lc _ (dWay K) (fun w => Mi.hasCourse (Mi.prAt r p).moves w.2) (dWay K) (Nat.le_trans hall.2 (Nat.le_trans (Mi.pow5 h4) (by decide))) (er_var rfl (Rp.mono _ e4 hw)) fun u v G5 hu e5 hv => ⟨_, tg_name, rfl, et_B (ca_exists (ear_cons (er_var rfl (dM_ls (Rp.mono _ e5 hm))) (ear_cons (er_ixT (rs := [dMI u.1, dRows K u.2]) (j := 1) (er_var rfl hv) ev_c rfl) ear_nil)) (Mi.rowsOk_of hk hp (hall.1 u hu))), fun _ => er_var rfl hv⟩
theorem bd_all_possible (T : Txt K mg C) (r : Mi.Ro) {vs : List V} (hv : All2 G [dRo K C r] vs) (hk : Mi.Ok r) : St (t_all_possible K C) (start N_all_possible vs) G noN (dM ((Mi.allPossible r).map (dWays K))) := by
  obtain ⟨a, rfl, hr⟩ := hv.inv1
  have hnp := hk.np
  unfold Mi.allPossible
  rw [List.map_map]
  refine st_ret (er_items (f := fun p => if p < r.props.length then dM ((Mi.possible r p).map (dWay K)) else dWays K (Mi.possible r p)) (er_all (er_lcR1 r.props.length (fun _ => true) _ (by omega) (ea_cons (ev_lenL (er_props T (er_var rfl hr))) ea_nil)
    fun k G1 hk1 e => ⟨_, tg_name, rfl, et_yes, fun _ => ?_⟩)) fun p _ _ q => ?_)
  · rw [if_pos hk1]
    exact ca_possible (ear_cons (er_var rfl (Rp.mono _ e hr)) (ear_cons (er_var rfl rfl) ear_nil)) ⟨hk, hk1⟩
  · by_cases h : p < r.props.length
    · rw [if_pos h] at q
      exact dM_ls q
    · rw [if_neg h] at q
      exact q
theorem bd_fewest_of (T : Txt K mg C) (ws : List Mi.Way) {vs : List V} (hv : All2 G [dWays K ws] vs) (hk : Mi.WaysOk ws) : St (t_fewest_of K C) (start N_fewest_of vs) G noN (dV (.int (Mi.fewestOf ws))) := by
  obtain ⟨a, rfl, ha⟩ := hv.inv1
  unfold Mi.fewestOf
  refine q_if (et_test (ev_eq (ev_lenL (er_var rfl ha)) ev_c)) (fun h => st_ret (er_v ?_)) fun h => st_ret (er_v ?_)
  · rw [if_pos (by have := of_decide_eq_true h; omega)]
    exact ev_c
  · have h1 := of_decide_eq_false h
    rw [if_neg (by omega)]
    refine ev_min (er_l (l := ws.map fun w => Mi.countFaults w.1) ?_) (fun q => h1 (by
      have := congrArg List.length q
      rw [List.length_map] at this
      rw [this]
      rfl))
    rw [List.map_map]
    refine er_all (er_lc ws (dWay K) (fun _ => true) _ (Nat.le_trans hk.1 (by decide)) (er_var rfl ha) fun w v G1 hw e hv => ?_)
    obtain ⟨t, x, y, rfl, ht, hx, hy⟩ := tp_two hv
    exact ⟨_, tg_two rfl ht, rfl, et_yes, fun _ => er_v (ca_count_faults (ear_cons (er_var rfl (dM_ls hx)) ear_nil) (Nat.le_trans (hk.2 w hw) (by decide)))⟩
theorem bd_fewest_each (T : Txt K mg C) (t : List (List Mi.Way)) {vs : List V} (hv : All2 G [dL K (dWays K) t] vs) (hk : t.length ≤ 100 ∧ ∀ ws ∈ t, Mi.WaysOk ws) : St (t_fewest_each K C) (start N_fewest_each vs) G noN (dMI (Mi.fewestEach t)) := by
  obtain ⟨a, rfl, ha⟩ := hv.inv1
  have h := hk.1
  refine st_ret ?_
  show EvR _ _ _ (dM ((t.map Mi.fewestOf).map dI))
  rw [List.map_map]
  exact er_all (er_lc t (dWays K) (fun _ => true) _ (by omega) (er_var rfl ha) fun ws v G1 hw e hv => ⟨_, tg_name, rfl, et_yes, fun _ => er_v (ca_fewest_of (ear_cons (er_var rfl hv) ear_nil) (hk.2 ws hw))⟩)
theorem any_containsI (p : Int) : ∀ l : List Int, (l.any fun (a : Int) => decide (a = p)) = l.contains p
  | [] => rfl
  | a :: l => by
    have e : (p == a) = decide (a = p) := by
      by_cases h : a = p
      · rw [h, decide_eq_true rfl]
        exact beq_self_eq_true p
      · rw [decide_eq_false h]
        exact beq_eq_false_iff_ne.mpr fun q => h q.symm
    rw [List.any_cons, List.contains_cons, any_containsI p l, e]
theorem bd_something (T : Txt K mg C) (few : List Int) (most : Nat) {vs : List V} (hv : All2 G [dInts K few, dN most] vs) (hk : True) : St (t_something K C) (start N_something vs) G noN (dV (.bl (Mi.something few most))) := by
  obtain ⟨a, b, rfl, ha, rfl⟩ := hv.inv2
  exact st_ret (er_v (ev_andV (ev_to (ev_notInR ev_c (er_var rfl ha)) (congrArg (!·) (any_containsI (-1) few))) fun _ => ev_le (ev_sum (er_var rfl ha)) (ev_var rfl)))
theorem bd_can_be (T : Txt K mg C) (r : Mi.Ro) {vs : List V} (hv : All2 G [dRo K C r] vs) (hk : Mi.Ok r) : St (t_can_be K C) (start N_can_be vs) G noN (dV (.bl (Mi.canBe r))) := by
  obtain ⟨a, rfl, hr⟩ := hv.inv1
  have hnp := hk.np
  exact st_ret (er_v (ca_something (ear_cons (er_l (ca_fewest_each (ear_cons (er_l (ca_all_possible (ear_cons (er_var rfl hr) ear_nil) hk)) ear_nil) ⟨by rw [Mi.all_len]; omega, Mi.waysOk_all hk⟩)) (ear_cons (er_v (ev_most T (er_var rfl hr))) ear_nil))))
theorem bd_at_most (T : Txt K mg C) (ws : List Mi.Way) (limit : Int) {vs : List V} (hv : All2 G [dWays K ws, dI limit] vs) (hk : Mi.WaysOk ws) : St (t_at_most K C) (start N_at_most vs) G noN (dM ((Mi.atMost ws limit).map (dWay K))) := by
  obtain ⟨a, b, rfl, ha, rfl⟩ := hv.inv2
  exact st_ret (er_lc ws (dWay K) _ (dWay K) (Nat.le_trans hk.1 (by decide)) (er_var rfl ha) fun w v G1 hw e hv => ⟨_, tg_name, rfl, et_test (ev_le (ca_count_faults (ear_cons (er_ls (er_ixT (rs := [dMI w.1, dRows K w.2]) (j := 0) (er_var rfl hv) ev_c rfl)) ear_nil) (Nat.le_trans (hk.2 w hw) (by decide))) (ev_var rfl)), fun _ => er_var rfl hv⟩)
/-- [e for x, y in zip(l, m)] -/
theorem er_lcZ {α β : Type} {tA : TA} {te : TE} {tt : TT} {g : TG} {vs : List Nat} (l : List α) (m : List β) (f : α → Rp) (f' : β → Rp) (keep : α × β → Bool) (h : α × β → Rp) (hlen : l.length = m.length) (hl : l.length ≤ 500000) (hsrc : EvAR tA σ G [dL K f l, dL K f' m])
    (ht : ∀ (a : α) (b : β) (x y : V) (p : Addr) (G1 : Hp), (a, b) ∈ l.zip m → Ex G G1 → (f a).p G1 x → (f' b).p G1 y → SqT K G1 p [x, y] → ∃ σ2, TgOk g (wipe σ vs) (.ref p) G1 σ2 ∧ wipe σ2 vs = wipe σ vs ∧ EvT tt σ2 G1 (keep (a, b)) ∧ (keep (a, b) = true → EvR te σ2 G1 (h (a, b)))) :
    EvR (tLc (iZip K tA) g tt te vs) σ G (dM (((l.zip m).filter keep).map h)) := fun H e Q q => hsrc H e _ fun us G1 H1 g1 hv => by
  obtain ⟨v, w, rfl, ⟨a, xs, rfl, hsa, hxs⟩, ⟨b, ys, rfl, hsb, hys⟩⟩ := hv.inv2
  have hxl : xs.length = l.length := by rw [hxs.length, List.length_map]
  have hyl : ys.length = m.length := by rw [hys.length, List.length_map]
  have hzl : (l.zip m).length = l.length := by rw [List.length_zip]; omega
  refine ⟨a, b, xs, ys, rfl, ex_l g1.gh hsa, ex_l g1.gh hsb, fun D hD => ?_⟩
  have hG1 : G1 D = none := fresh_back g1.gh hD
  refine ⟨fun i k H' => k = l.length - i ∧ i ≤ l.length ∧ Lw D G1 (upd H1 D (.lst [])) ((((l.zip m).take i).filter keep).map h) H', ⟨l.length, rfl, Nat.zero_le _, G1, [], GrowP.start (ex_wr g1.gh hG1) hG1, upd_same, .nil⟩, ?_⟩
  rintro i k H' ⟨rfl, hi, G', acc, gp, hDD, hacc⟩
  have qa : SqL K H' a xs := ex_l (gp.gg.trans gp.gh) hsa
  have qb : SqL K H' b ys := ex_l (gp.gg.trans gp.gh) hsb
  by_cases hlt : i < l.length
  · have hlz : i < (l.zip m).length := by omega
    have hz : (l.zip m)[i]? = some (l.zip m)[i] := List.getElem?_eq_getElem hlz
    generalize hc : (l.zip m)[i] = c at hz
    obtain ⟨a', b'⟩ := c
    obtain ⟨ha', hb'⟩ := List.getElem?_zip_eq_some.mp hz
    obtain ⟨x, hx, hfx⟩ := hxs.get (i := i) (r := f a') (by rw [List.getElem?_map, ha']; rfl)
    obtain ⟨y, hy, hfy⟩ := hys.get (i := i) (r := f' b') (by rw [List.getElem?_map, hb']; rfl)
    refine .inr ⟨⟨xs, ys, x, y, qa, qb, hx, hy⟩, fun H2 => Lw D G1 (upd H1 D (.lst [])) ((((l.zip m).take (i + 1)).filter keep).map h) H2, fun H2 hn => ⟨l.length - (i + 1), by omega, rfl, by omega, hn⟩, ?_⟩
    rintro u H2 ⟨p, x', y', rfl, hp, rfl, e1, e2⟩
    have ex' : x' = x := Option.some.inj ((e1 xs qa).symm.trans hx)
    have ey' : y' = y := Option.some.inj ((e2 ys qb).symm.trans hy)
    subst ex' ey'
    have gT := gp.step (some_ne hDD) (Grow.new (o := .tup [x', y']) gp.gh hp)
    have eT : Ex G' (upd G' p (.tup [x', y'])) := Ex.new (fresh_back gp.gh hp)
    have hDT : (upd H' p (.tup [x', y'])) D = some (.lst acc) := by
      rw [upd_ne (ne_of_none hDD hp)]
      exact hDD
    obtain ⟨σ2, tg, hw, hte, hre⟩ := ht a' b' x' y' p (upd G' p (.tup [x', y'])) (List.mem_of_getElem? hz) (g1.gg.trans gT.gg) ((f a').mono gT.gg hfx) ((f' b').mono gT.gg hfy) (st_of upd_same)
    refine tg _ gT.gh _ ⟨hw, lw_turn' gT hDT (hacc.mono eT) ?_ hte hre ?_⟩
    · have h1 := filt_len keep h ((l.zip m).take i)
      have h2 : ((l.zip m).take i).length ≤ (l.zip m).length := by
        rw [List.length_take]
        exact Nat.min_le_right _ _
      omega
    · rw [take_succ hz, filt_snoc]
  · have ei : i = l.length := by omega
    subst ei
    refine .inl ⟨⟨xs, ys, qa, qb, .inl (by omega)⟩, ?_⟩
    rw [← hzl, List.take_length] at hacc
    exact q (.ref D) _ _ (g1.trans (gp.fin hD hDD)) ⟨D, acc, rfl, upd_same, hacc.mono (Ex.new gp.gn)⟩
theorem bd_all_left (T : Txt K mg C) (r : Mi.Ro) {vs : List V} (hv : All2 G [dRo K C r] vs) (hk : Mi.Ok r) : St (t_all_left K C) (start N_all_left vs) G noN (dM ((Mi.allLeft r).map (dWays K))) := by
  obtain ⟨a, rfl, hr⟩ := hv.inv1
  have hnp := hk.np
  have hal := Mi.all_len (r := r)
  have hfl : (Mi.fewestEach (Mi.allPossible r)).length = (Mi.allPossible r).length := by
    unfold Mi.fewestEach
    rw [List.length_map]
  refine q_asgR (ca_all_possible (ear_cons (er_var rfl hr) ear_nil) hk) fun t G1 e1 ht => ?_
  refine q_asgR (ca_fewest_each (ear_cons (er_var rfl (dM_ls ht)) ear_nil) ⟨by omega, Mi.waysOk_all hk⟩) fun f G2 e2 hf => ?_
  have hr2 := Rp.mono _ (e1.trans e2) hr
  have ht2 := Rp.mono _ e2 ht
  unfold Mi.allLeft
  simp only
  refine q_if (et_not (et_B (ca_something (ear_cons (er_var rfl (dM_ls hf)) (ear_cons (er_v (ev_most T (er_var rfl hr2))) ear_nil))))) (fun h => st_ret ?_) fun h => ?_
  · rw [if_neg (by rw [nb_t h]; exact Bool.false_ne_true), List.map_map]
    exact er_items (f := fun _ => dM []) (er_all (er_lc (Mi.allPossible r) (dWays K) (fun _ => true) (fun _ => dM []) (by omega) (er_l (er_var rfl ht2)) fun ws v G3 hw e hv => ⟨_, tg_name, rfl, et_yes, fun _ => er_lst ear_nil (Nat.zero_le _)⟩)) fun _ _ _ q => dM_ls q
  rw [if_pos (nb_f h), List.map_map]
  refine q_asgV (ev_sum (er_l (er_var rfl hf))) (st_ret (er_items (f := fun (x : List Mi.Way × Int) => dM ((Mi.atMost x.1 ((r.most : Int) - ((Mi.fewestEach (Mi.allPossible r)).sum - x.2))).map (dWay K))) (er_all (er_lcZ (Mi.allPossible r) (Mi.fewestEach (Mi.allPossible r)) (dWays K) dI (fun _ => true) _ hfl.symm (by omega) (ear_cons (er_var rfl (dM_ls ht2)) (ear_cons (er_var rfl (dM_ls hf)) ear_nil))
    fun ws n x y p G3 hm e hx hy hp => ⟨_, tg_two rfl hp, rfl, et_yes, fun _ => ca_at_most (ear_cons (er_var rfl hx) (ear_cons (er_v (ev_sub (ev_most T (er_var rfl (Rp.mono _ e hr2))) (ev_sub (ev_var rfl) (ev_r (er_var rfl hy))))) ear_nil)) (Mi.waysOk_all hk ws (List.of_mem_zip hm).1)⟩)) fun _ _ _ q => dM_ls q))
theorem bd_left_of (T : Txt K mg C) (r : Mi.Ro) (p : Nat) {vs : List V} (hv : All2 G [dRo K C r, dN p] vs) (hk : Mi.Ok r ∧ p < r.props.length) : St (t_left_of K C) (start N_left_of vs) G noN (dWays K (Mi.leftOf r p)) := by
  obtain ⟨a, b, rfl, hr, rfl⟩ := hv.inv2
  exact st_ret (er_ixD (er_l (ca_all_left (ear_cons (er_var rfl hr) ear_nil) hk.1)) (ev_var rfl) (by rw [Mi.left_len]; exact hk.2))
end
end Sk
/-! part W8 -/
namespace Mi
theorem insertI_perm (n : Int) : ∀ l : List Int, (insertI n l).Perm (n :: l)
  | [] => List.Perm.refl _
  | x :: l => by
    unfold insertI
    split
    · exact List.Perm.refl _
    · exact ((insertI_perm n l).cons x).trans (List.Perm.swap n x l)
theorem sortI_perm : ∀ l : List Int, (sortI l).Perm l
  | [] => List.Perm.refl _
  | x :: l => by
    show (insertI x (sortI l)).Perm (x :: l)
    exact (insertI_perm x _).trans ((sortI_perm l).cons x)
theorem insertI_sorted (n : Int) : ∀ l : List Int, l.Pairwise (· ≤ ·) → (insertI n l).Pairwise (· ≤ ·)
  | [], _ => List.pairwise_singleton ..
  | x :: l, h => by
    obtain ⟨h1, h2⟩ := List.pairwise_cons.mp h
    unfold insertI
    split
    · rename_i hn
      refine List.pairwise_cons.mpr ⟨fun y hy => ?_, h⟩
      rcases List.mem_cons.mp hy with q | q
      · rw [q]
        exact hn
      · exact Int.le_trans hn (h1 y q)
    · rename_i hn
      refine List.pairwise_cons.mpr ⟨fun y hy => ?_, insertI_sorted n l h2⟩
      rcases List.mem_cons.mp ((insertI_perm n l).mem_iff.mp hy) with q | q
      · rw [q]
        omega
      · exact h1 y q
theorem sortI_sorted : ∀ l : List Int, (sortI l).Pairwise (· ≤ ·)
  | [] => List.Pairwise.nil
  | x :: l => insertI_sorted x _ (sortI_sorted l)
theorem sortI_is {l m : List Int} (h : m.Perm l) (hs : m.Pairwise (· ≤ ·)) : m = sortI l :=
  (h.trans (sortI_perm l).symm).eq_of_pairwise (fun _ _ _ _ h1 h2 => Int.le_antisymm h1 h2) hs (sortI_sorted l)
theorem isProp_nat {r : Ro} {p : Int} (h : isProp r p = true) : ∃ n : Nat, p = (n : Int) ∧ n < r.props.length := by
  unfold isProp at h
  rw [Bool.and_eq_true] at h
  have h1 := of_decide_eq_true h.1
  have h2 := of_decide_eq_true h.2
  exact ⟨p.toNat, by omega, by omega⟩
theorem isSensor_nat {r : Ro} {p : Int} (h : isSensor r p = true) : ∃ n : Nat, p = (n : Int) ∧ n < r.sensors.length := by
  unfold isSensor at h
  rw [Bool.and_eq_true] at h
  have h1 := of_decide_eq_true h.1
  have h2 := of_decide_eq_true h.2
  exact ⟨p.toNat, by omega, by omega⟩
theorem seats_len {ms : List Int} {al : List (List Nat)} : (seats ms al).length = ms.length := by
  unfold seats
  rw [List.length_reverse, List.length_map, List.length_range]
theorem atMost_ne {ws : List Way} (h : ws ≠ []) : 0 < (atMost ws (fewestOf ws)).length := by
  have h0 : ws.length ≠ 0 := fun q => h (List.eq_nil_of_length_eq_zero q)
  have h1 := (Sk.leastN_mem (l := ws.map fun w => countFaults w.1) (fun q => h (List.map_eq_nil_iff.mp q))).1
  obtain ⟨w, hw, e⟩ := List.mem_map.mp h1
  refine List.length_pos_iff.mpr (List.ne_nil_of_mem (a := w) (List.mem_filter.mpr ⟨hw, ?_⟩))
  unfold fewestOf
  rw [if_neg h0, ← e]
  exact decide_eq_true (Int.le_refl _)
theorem firstFew_mem {ws : List Way} (h : ws ≠ []) : firstFew ws ∈ ws := by
  have h1 := atMost_ne h
  unfold firstFew
  rw [List.getD_eq_getElem?_getD, List.getElem?_eq_getElem h1]
  exact (List.mem_filter.mp (List.getElem_mem h1)).1
end Mi
namespace Sk
open PySem PySem.Spec PyProof.Rows L2 Evl
section
variable {K : PySem.W.Frag} {mg : Str → Option Value} {C : Cs} {G : Hp} {σ : L2.St} {te ta tb : TE}
theorem er_sorted {ns : List Int} (h : EvR te σ G (dL K dI ns)) (hl : ns.length < 64) : EvR (tCB (rSorted K) (tCons te tNil)) σ G (dMI (Mi.sortI ns)) := fun H e Q n => h H e _ fun v G1 H1 g ⟨a, xs, ev, hs, hx⟩ => by
  have ex := All2.vals _ ns hx
  subst ex
  refine ⟨a, ns, by rw [ev], ex_l g.gh hs, hl, fun ns' p hp hs' hn => ?_⟩
  rw [Mi.sortI_is hp hs']
  exact n (.ref p) _ _ (g.laid hn) ⟨p, _, rfl, upd_same, All2.ofVals _ _⟩
theorem ev_count {ns : List Int} {i : Int} (h : EvR ta σ G (dL K dI ns)) (hb : Ev tb σ G (.int i)) : Ev (tBM K "list" (rCntI K) ta (tCons tb tNil)) σ G (.int (ns.count i : Nat)) := fun H e Q n => h H e _ fun v G1 H1 g ⟨a, xs, ev, hs, hx⟩ => by
  have ex := All2.vals _ ns hx
  subst ex
  subst ev
  exact ⟨Or.inl ⟨rfl, _, ex_l g.gh hs⟩, hb H1 (e.trans g.hh) _ fun H2 e2 => ⟨a, ns, i, rfl, rfl, ex_l (g.gh.trans e2) hs, n H2 (g.hh.trans e2)⟩⟩
theorem er_no {k : Int} : EvR (tLst (tCons (tUn (rU fun i => .int (-i)) (tC (.int k))) tNil)) σ G (dMI [-k]) := er_lst (Rs := [dI (-k)]) (ear_cons (er_v (ev_neg ev_c)) ear_nil) (by show 1 ≤ 100000; decide)
theorem er_ints {l : List Nat} (h : EvR te σ G (dMN l)) : EvR te σ G (dMI (Mi.toInts l)) := by
  show EvR te σ G (dM ((l.map fun (n : Nat) => (n : Int)).map dI))
  rw [List.map_map]
  exact h
theorem ev_bit {b : Bool} {t : TT} (h : EvT t σ G b) : Ev (tIf t (tC (.int 1)) (tC (.int 0))) σ G (.int (Mi.bit b)) := ev_if h (fun q => by
  rw [q]
  exact ev_c) fun q => by
  rw [q]
  exact ev_c
theorem neq_len {a b : Nat} (h : (!decide ((a : Int) = (b : Int))) = true) : ¬ a = b := fun q => by
  rw [q, decide_eq_true rfl] at h
  cases h
theorem eq_len {a b : Nat} (h : (!decide ((a : Int) = (b : Int))) = false) : a = b := by
  have := of_decide_eq_true (nb_f h)
  omega
theorem bd_moves_are_right (T : Txt K mg C) (r : Mi.Ro) (ms : List Int) {vs : List V} (hv : All2 G [dRo K C r, dInts K ms] vs) (hk : True) : St (t_moves_are_right K C) (start N_moves_are_right vs) G noN (dV (.bl (Mi.movesRight r ms))) := by
  obtain ⟨a, b, rfl, hr, hm⟩ := hv.inv2
  unfold Mi.movesRight
  refine q_if (et_test (ev_ne (ev_lenL (er_var rfl hm)) (ev_lenL (er_props T (er_var rfl hr))))) (fun h => st_ret (er_v ?_)) fun h => ?_
  · rw [decide_eq_false (neq_len h), Bool.false_and]
    exact ev_c
  have e := eq_len h
  rw [decide_eq_true e, Bool.true_and]
  refine st_seq (st_findZ r.props ms (dPr C) dI (fun q m => !(decide (-2 ≤ m) && decide (m < (q.size : Int)))) e.symm (by decide) (ear_cons (er_props T (er_var rfl hr)) (ear_cons (er_var rfl hm) ear_nil))
    fun q m x y z1 z2 G' hm e hx hy => ⟨_, et_not (et_test (ev_chain (ev_neg ev_c) (ev_r (er_var rfl hy)) (ev_size T (er_var rfl hx)))), rfl, fun h => er_v ?_⟩) fun σ2 G2 e ⟨⟨z1, z2, es⟩, hall⟩ => st_ret (er_v ?_)
  · rw [all_false (p := fun x : Mi.Pr × Int => decide (-2 ≤ x.2) && decide (x.2 < (x.1.size : Int))) hm (nb_t h)]
    exact ev_c
  · rw [List.all_eq_true.mpr fun p hp => nb_f (hall p hp)]
    exact ev_c
theorem bd_readings_are_right (T : Txt K mg C) (r : Mi.Ro) (rs : List Int) {vs : List V} (hv : All2 G [dRo K C r, dInts K rs] vs) (hk : True) : St (t_readings_are_right K C) (start N_readings_are_right vs) G noN (dV (.bl (Mi.readingsRight r rs))) := by
  obtain ⟨a, b, rfl, hr, hm⟩ := hv.inv2
  unfold Mi.readingsRight
  refine q_if (et_test (ev_ne (ev_lenL (er_var rfl hm)) (ev_lenL (er_sensors T (er_var rfl hr))))) (fun h => st_ret (er_v ?_)) fun h => ?_
  · rw [decide_eq_false (neq_len h), Bool.false_and]
    exact ev_c
  rw [decide_eq_true (eq_len h), Bool.true_and]
  refine st_seq (st_find rs dI (fun n => !(decide (-1 ≤ n) && decide (n ≤ 1000))) (er_var rfl hm) fun n w y G' hn e hw => ⟨_, et_not (et_test (ev_chain (ev_neg ev_c) (ev_r (er_var rfl hw)) ev_c)), rfl, fun h => er_v ?_⟩) fun σ2 G2 e ⟨⟨y, es⟩, hall⟩ => st_ret (er_v ?_)
  · rw [all_false (p := fun n => decide (-1 ≤ n) && decide (n ≤ 1000)) hn (nb_t h)]
    exact ev_c
  · rw [List.all_eq_true.mpr fun p hp => nb_f (hall p hp)]
    exact ev_c
theorem any_true {α : Type} {l : List α} {p : α → Bool} {a : α} (h : a ∈ l) (q : p a = true) : l.any p = true := List.any_eq_true.mpr ⟨a, h, q⟩
theorem any_none {α : Type} {l : List α} {p : α → Bool} (h : ∀ a ∈ l, p a = false) : l.any p = false := by
  cases e : l.any p with
  | false => rfl
  | true =>
    obtain ⟨a, ha, q⟩ := List.any_eq_true.mp e
    rw [h a ha] at q
    cases q
theorem bd_stands (T : Txt K mg C) (rows : List (List Nat)) (p : Nat) {vs : List V} (hv : All2 G [dRows K rows, dN p] vs) (hk : True) : St (t_stands K C) (start N_stands vs) G noN (dV (.bl (Mi.stands rows p))) := by
  obtain ⟨a, b, rfl, hr, rfl⟩ := hv.inv2
  unfold Mi.stands
  refine st_seq (st_find rows (dRow K) (fun row => row.contains p) (er_var rfl hr) fun row w y G' hn e hw => ⟨_, et_test (ev_to (ev_inR (ev_var rfl) (er_var rfl hw)) (any_contains p row)), rfl, fun h => er_v ?_⟩) fun σ2 G2 e ⟨⟨y, es⟩, hall⟩ => st_ret (er_v ?_)
  · rw [any_true (p := fun row : List Nat => row.contains p) hn h]
    exact ev_c
  · rw [any_none hall]
    exact ev_c
theorem bd_say_where (T : Txt K mg C) (r : Mi.Ro) (p : Int) (t : Int) {vs : List V} (hv : All2 G [dRo K C r, dI p, dI t] vs) (hk : Mi.Ok r) : St (t_say_where K C) (start N_say_where vs) G noN (dMI (Mi.sayWhere r p t)) := by
  obtain ⟨a, b, c, rfl, hr, rfl, rfl⟩ := hv.inv3
  unfold Mi.sayWhere
  refine q_if (et_or (et_not (et_B (ca_is_prop (ear_cons (er_var rfl hr) (ear_cons (er_var rfl rfl) ear_nil))))) fun _ => et_not (et_test (ev_chain ev_c (ev_var rfl) (ev_now T (er_var rfl hr))))) (fun h => st_ret ?_) fun h => ?_
  · rw [if_pos (fun ⟨q1, q2⟩ => by
      rw [q1, decide_eq_true q2.1, decide_eq_true q2.2] at h
      cases h)]
    exact er_no
  rw [Bool.or_eq_false_iff] at h
  have h1 := nb_f h.1
  have h2 := nb_f h.2
  rw [Bool.and_eq_true] at h2
  have h3 := of_decide_eq_true h2.1
  have h4 := of_decide_eq_true h2.2
  rw [if_neg (fun q => q ⟨h1, h3, h4⟩)]
  refine q_if (et_not (et_B (ev_begun T (er_var rfl hr)))) (fun h => st_ret ?_) fun h => ?_
  · rw [if_pos (nb_t h)]
    exact er_no
  rw [if_neg (by rw [nb_f h]; exact Bool.noConfusion)]
  obtain ⟨n, rfl, hn⟩ := Mi.isProp_nat h1
  obtain ⟨t, rfl⟩ : ∃ k : Nat, t = (k : Int) := ⟨t.toNat, by omega⟩
  rw [Int.toNat_natCast, Int.toNat_natCast]
  have hpr := Mi.pr_at hk hn
  refine q_asgR (er_moves T (er_ixD (d := ⟨0, []⟩) (er_props T (er_var rfl hr)) (ev_var rfl) hn)) fun m G1 e1 hm => ?_
  have hr1 := Rp.mono _ e1 hr
  refine q_asgR (er_all (er_lc (Mi.leftOf r n) (dWay K) (fun _ => true) (fun w => dRow K ((Mi.seats (Mi.prAt r n).moves w.2).getD t [])) (Nat.le_trans (Mi.leftOf_len hk hn) (by decide)) (ca_left_of (ear_cons (er_var rfl hr1) (ear_cons (er_var rfl rfl) ear_nil)) ⟨hk, hn⟩)
    fun w v G2 hw e2 hv => by
      obtain ⟨q, x, y, rfl, hq, hx, hy⟩ := tp_two hv
      exact ⟨_, tg_two rfl hq, rfl, et_yes, fun _ => er_ixD (er_l (ca_seats (ear_cons (er_var rfl (dM_ls (Rp.mono _ e2 hm))) (ear_cons (er_var rfl hy) ear_nil)) (Mi.rowsOk_of hk hn (Mi.left_is hk hn w hw)))) (ev_var rfl) (by rw [Mi.seats_len]; omega)⟩)) fun z G2 e2 hz => st_ret ?_
  have hr2 := Rp.mono _ e2 hr1
  refine er_catL (l := [0]) (er_lst (Rs := [dI 0]) (ear_cons (er_v ev_c) ear_nil) (by show 1 ≤ 100000; decide)) (er_ints (er_lcR1 _ _ dN (by omega) (ea_cons (ev_size T (er_ixD (d := ⟨0, []⟩) (er_props T (er_var rfl hr2)) (ev_var rfl) hn)) ea_nil)
    fun k G3 hk3 e3 => ⟨_, tg_name, rfl, et_B (ca_stands (rows := (Mi.leftOf r n).map fun w => (Mi.seats (Mi.prAt r n).moves w.2).getD t []) (ear_cons (er_var rfl (dM_ls (by rw [List.map_map]; exact Rp.mono _ e3 hz))) (ear_cons (er_var rfl rfl) ear_nil))), fun _ => er_var rfl rfl⟩)) ?_
  show 1 + (Mi.toInts _).length ≤ _
  unfold Mi.toInts
  rw [List.length_map]
  have h5 := List.length_filter_le (Mi.stands ((Mi.leftOf r n).map fun w => (Mi.seats (Mi.prAt r n).moves w.2).getD t [])) (List.range (Mi.prAt r n).size)
  rw [List.length_range] at h5
  show 1 + (List.filter _ (List.range (Mi.prAt r n).size)).length ≤ 1000000
  omega
theorem bd_say_fewest (T : Txt K mg C) (r : Mi.Ro) {vs : List V} (hv : All2 G [dRo K C r] vs) (hk : Mi.Ok r) : St (t_say_fewest K C) (start N_say_fewest vs) G noN (dMI (Mi.sayFewest r)) := by
  obtain ⟨a, rfl, hr⟩ := hv.inv1
  have hnp := hk.np
  unfold Mi.sayFewest
  refine q_if (et_not (et_B (ev_begun T (er_var rfl hr)))) (fun h => st_ret ?_) fun h => ?_
  · rw [if_pos (nb_t h)]
    exact er_no
  rw [if_neg (by rw [nb_f h]; exact Bool.noConfusion)]
  refine q_asgR (ca_fewest_each (ear_cons (er_l (ca_all_possible (ear_cons (er_var rfl hr) ear_nil) hk)) ear_nil) ⟨by rw [Mi.all_len]; omega, Mi.waysOk_all hk⟩) fun f G2 e2 hf => ?_
  have hr2 := Rp.mono _ e2 hr
  refine q_if (et_not (et_B (ca_something (ear_cons (er_var rfl (dM_ls hf)) (ear_cons (er_v (ev_most T (er_var rfl hr2))) ear_nil))))) (fun h => st_ret ?_) fun h => st_ret ?_
  · rw [if_pos (nb_t h)]
    exact er_no
  · rw [if_neg (by rw [nb_f h]; exact Bool.noConfusion)]
    refine er_catL (l := [0, (Mi.fewestEach (Mi.allPossible r)).sum]) (er_lst (Rs := [dI 0, dI _]) (ear_cons (er_v ev_c) (ear_cons (er_v (ev_sum (er_l (er_var rfl hf)))) ear_nil)) (by show 2 ≤ 100000; decide)) (er_var rfl hf) ?_
    have e5 : (Mi.fewestEach (Mi.allPossible r)).length = r.props.length := by
      unfold Mi.fewestEach
      rw [List.length_map, Mi.all_len]
    show 2 + (Mi.fewestEach (Mi.allPossible r)).length ≤ 1000000
    omega
theorem bd_say_explain (T : Txt K mg C) (r : Mi.Ro) (p : Int) {vs : List V} (hv : All2 G [dRo K C r, dI p] vs) (hk : Mi.Ok r) : St (t_say_explain K C) (start N_say_explain vs) G noN (dMI (Mi.sayExplain r p)) := by
  obtain ⟨a, b, rfl, hr, rfl⟩ := hv.inv2
  unfold Mi.sayExplain
  refine q_if (et_not (et_B (ca_is_prop (ear_cons (er_var rfl hr) (ear_cons (er_var rfl rfl) ear_nil))))) (fun h => st_ret ?_) fun h => ?_
  · rw [if_pos (nb_t h)]
    exact er_no
  have h1 := nb_f h
  rw [if_neg (by rw [h1]; exact Bool.noConfusion)]
  refine q_if (et_not (et_B (ev_begun T (er_var rfl hr)))) (fun h => st_ret ?_) fun h => ?_
  · rw [if_pos (nb_t h)]
    exact er_no
  rw [if_neg (by rw [nb_f h]; exact Bool.noConfusion)]
  obtain ⟨n, rfl, hn⟩ := Mi.isProp_nat h1
  rw [Int.toNat_natCast]
  have hpr := Mi.pr_at hk hn
  have hnow := hk.now
  refine q_asgR (ca_left_of (ear_cons (er_var rfl hr) (ear_cons (er_var rfl rfl) ear_nil)) ⟨hk, hn⟩) fun z G1 e1 hz => ?_
  refine q_if (et_test (ev_eq (ev_lenL (er_var rfl hz)) ev_c)) (fun h => st_ret ?_) fun h => ?_
  · rw [if_pos (by have := of_decide_eq_true h; omega)]
    exact er_no
  have h0 := of_decide_eq_false h
  rw [if_neg (by omega)]
  have hne : Mi.leftOf r n ≠ [] := fun q => h0 (by rw [q]; rfl)
  have hwo := Mi.waysOk_left hk hn
  have hmem := Mi.firstFew_mem hne
  have his := Mi.left_is hk hn _ hmem
  refine q_asg2 (K := K) (R1 := dMI (Mi.firstFew (Mi.leftOf r n)).1) (R2 := dRows K (Mi.firstFew (Mi.leftOf r n)).2) (er_ixD (n := 0) (f := dWay K) (d := ([], [])) (er_l (ca_at_most (ear_cons (er_var rfl hz) (ear_cons (er_v (ca_fewest_of (ear_cons (er_var rfl hz) ear_nil) hwo)) ear_nil)) hwo)) ev_c (Mi.atMost_ne hne)) fun x y G2 e2 hx hy => st_ret ?_
  have hr2 := Rp.mono _ (e1.trans e2) hr
  have hlen : (Mi.firstFew (Mi.leftOf r n)).1.length ≤ 4 := by rw [his.n]; exact hk.one n
  refine er_catL (l := [0] ++ (Mi.firstFew (Mi.leftOf r n)).1) (er_catL (l := [0]) (er_lst (Rs := [dI 0]) (ear_cons (er_v ev_c) ear_nil) (by show 1 ≤ 100000; decide)) (er_var rfl hx) (by show 1 + _ ≤ _; omega))
    (er_ints (ca_least_course (ear_cons (er_ls (er_moves T (er_ixD (d := ⟨0, []⟩) (er_props T (er_var rfl hr2)) (ev_var rfl) hn))) (ear_cons (er_var rfl hy) ear_nil)) ⟨Mi.rowsOk_of hk hn his, Mi.left_course hn _ hmem⟩)) ?_
  have e6 : (Mi.toInts (Mi.leastCourse (Mi.prAt r n).moves (Mi.firstFew (Mi.leftOf r n)).2)).length = r.now + 1 := by
    unfold Mi.toInts Mi.leastCourse
    rw [List.length_map, List.length_reverse, List.length_map, List.length_range, hpr.2.2]
  rw [e6, List.length_append]
  show 1 + _ + _ ≤ _
  omega
end
end Sk
/-! part W9 -/
namespace Sk
open PySem PySem.Spec PyProof.Rows L2 Evl
section
variable {K : PySem.W.Frag} {mg : Str → Option Value} {C : Cs} {G : Hp} {σ : L2.St} {te ta tb : TE}
theorem isCourse_len {ms : List Int} {size : Nat} {c : List Nat} (h : Mi.isCourse ms size c = true) : c.length = ms.length := by
  unfold Mi.isCourse at h
  rw [Bool.and_eq_true, Bool.and_eq_true] at h
  exact of_decide_eq_true h.1.1
theorem bd_explains (T : Txt K mg C) (r : Mi.Ro) (p : Nat) (fs : List Int) (c : List Nat) {vs : List V} (hv : All2 G [dRo K C r, dN p, dInts K fs, dRow K c] vs) (hk : Mi.Ok r ∧ p < r.props.length ∧ ∀ f ∈ fs, 0 ≤ f) : St (t_explains K C) (start N_explains vs) G noN (dV (.bl (Mi.explains r p fs c))) := by
  obtain ⟨a, b, d, e, rfl, hr, rfl, hf, hc⟩ := hv.inv4
  obtain ⟨hk, hp, hpos⟩ := hk
  have hpr := Mi.pr_at hk hp
  have hnow := hk.now
  unfold Mi.explains
  refine q_asgR (ca_sensors_of (ear_cons (er_var rfl hr) (ear_cons (er_var rfl rfl) ear_nil)) hk) fun z G1 e1 hz => ?_
  have hr1 := Rp.mono _ e1 hr
  have hf1 := Rp.mono _ e1 hf
  have hc1 := Rp.mono _ e1 hc
  refine q_asgV (ev_size T (er_ixD (d := ⟨0, []⟩) (er_props T (er_var rfl hr1)) (ev_var rfl) hp)) ?_
  refine q_if (et_or (et_test (ev_ne (ev_lenL (er_var rfl hf1)) (ev_lenM (er_var rfl hz)))) fun _ => et_not (et_B (ca_is_course (ear_cons (er_ls (er_moves T (er_ixD (d := ⟨0, []⟩) (er_props T (er_var rfl hr1)) (ev_var rfl) hp))) (ear_cons (er_var rfl rfl) (ear_cons (er_var rfl hc1) ear_nil))) ⟨by have := hpr.2.2; unfold Mi.prAt at this; omega, by have := hpr.2.2; unfold Mi.prAt at this; omega⟩))) (fun h => st_ret (er_v ?_)) fun h => ?_
  · have h2 : (decide (fs.length = (Mi.sensorsOf r p).length) && Mi.isCourse (Mi.prAt r p).moves (Mi.prAt r p).size c) = false := by
      cases q : decide (fs.length = (Mi.sensorsOf r p).length) with
      | false => rfl
      | true =>
        rw [of_decide_eq_true q, decide_eq_true rfl] at h
        rw [Bool.true_and]
        exact nb_t h
    rw [h2, Bool.false_and]
    exact ev_c
  rw [Bool.or_eq_false_iff] at h
  have hl := eq_len h.1
  have hco : Mi.isCourse (Mi.prAt r p).moves (Mi.prAt r p).size c = true := nb_f h.2
  have hcl := isCourse_len hco
  have h2 : (decide (fs.length = (Mi.sensorsOf r p).length) && Mi.isCourse (Mi.prAt r p).moves (Mi.prAt r p).size c) = true := by
    rw [decide_eq_true hl, Bool.true_and]
    exact hco
  rw [h2, Bool.true_and]
  have hzl : ((Mi.sensorsOf r p).zip fs).length = (Mi.sensorsOf r p).length := by rw [List.length_zip]; omega
  refine st_seq (st_forZ (Mi.sensorsOf r p) fs (dSe C) dI (fun k σ' _ => (∃ y1 y2, σ' = [some a, some (.int (p : Int)), some d, some e, some z, some (.int ((Mi.prAt r p).size : Int)), y1, y2]) ∧ ∀ u ∈ ((Mi.sensorsOf r p).zip fs).take k, (Mi.mayHave u.1 u.2 r.now && Mi.within c (Mi.sight u.1 u.2 (Mi.prAt r p).size r.now)) = true) hl.symm (ear_cons (er_l (er_var rfl hz)) (ear_cons (er_var rfl hf1) ear_nil)) (fun _ _ => ⟨⟨none, none, rfl⟩, fun a h => by simp at h⟩)
    (fun k x f vx vf Ta σ' G' hx hf' e2 hvx hvf hT ⟨⟨y1, y2, es⟩, hall⟩ => ?_) (fun _ _ _ _ _ q => q)) fun σ2 G2 e2 ⟨⟨y1, y2, es⟩, hall⟩ => st_ret (er_v ?_)
  · subst es
    have hk2 : ((Mi.sensorsOf r p).zip fs)[k]? = some (x, f) := by
      rw [List.getElem?_zip_eq_some]
      exact ⟨hx, hf'⟩
    have hm := List.mem_of_getElem? hk2
    have hse := Mi.sensors_ok hk x (List.mem_of_getElem? hx)
    have hr2 := Rp.mono _ e2 hr1
    have hc2 := Rp.mono _ e2 hc1
    refine ⟨_, tg_two rfl hT, q_if (et_not (et_B (ca_may_have (ear_cons (er_var rfl hvx) (ear_cons (er_var rfl hvf) (ear_cons (er_v (ev_now T (er_var rfl hr2))) ear_nil))) hse))) (fun h => st_ret (er_v ?_)) fun h => ?_⟩
    · rw [all_false (p := fun x : Mi.Se × Int => Mi.mayHave x.1 x.2 r.now && Mi.within c (Mi.sight x.1 x.2 (Mi.prAt r p).size r.now)) hm (by rw [nb_t h]; rfl)]
      exact ev_c
    · refine st_if (et_not (et_B (ca_within (ear_cons (er_var rfl hc2) (ear_cons (er_l (ca_sight (ear_cons (er_var rfl hvx) (ear_cons (er_var rfl hvf) (ear_cons (er_var rfl rfl) (ear_cons (er_v (ev_now T (er_var rfl hr2))) ear_nil)))) ⟨hse, hpos f (List.mem_of_getElem? hf'), hpr.2.1⟩)) ear_nil)) (by rw [hcl, hpr.2.2, Mi.sight_len])))) (fun h2 => st_ret (er_v ?_)) fun h2 => st_next ⟨⟨_, _, rfl⟩, fun u hu => ?_⟩
      · rw [all_false (p := fun x : Mi.Se × Int => Mi.mayHave x.1 x.2 r.now && Mi.within c (Mi.sight x.1 x.2 (Mi.prAt r p).size r.now)) hm (by rw [nb_t h2, Bool.and_false])]
        exact ev_c
      · rw [take_succ hk2] at hu
        rcases List.mem_append.mp hu with q | q
        · exact hall u q
        · rw [List.mem_singleton.mp q, nb_f h, nb_f h2]
          rfl
  · subst es
    rw [← hzl, List.take_length] at hall
    rw [List.all_eq_true.mpr hall]
    exact ev_c
theorem er_mapI {α : Type} {f : α → Int} {l : List α} (h : EvR te σ G (dM (l.map fun a => dI (f a)))) : EvR te σ G (dMI (l.map f)) := by
  show EvR te σ G (dM ((l.map f).map dI))
  rw [List.map_map]
  exact h
theorem ints_nat {c : List Int} (h : ∀ n ∈ c, 0 ≤ n) : c.map dI = (c.map Int.toNat).map dN := by
  rw [List.map_map]
  refine List.map_congr_left fun n hn => ?_
  have := h n hn
  show dI n = dI ((n.toNat : Nat) : Int)
  rw [show ((n.toNat : Nat) : Int) = n by omega]
theorem bd_say_check (T : Txt K mg C) (r : Mi.Ro) (p : Int) (fs : List Int) (c : List Int) {vs : List V} (hv : All2 G [dRo K C r, dI p, dInts K fs, dInts K c] vs) (hk : Mi.Ok r ∧ fs.length ≤ 100 ∧ c.length ≤ 100) : St (t_say_check K C) (start N_say_check vs) G noN (dMI (Mi.sayCheck r p fs c)) := by
  obtain ⟨a, b, d, e, rfl, hr, rfl, hf, hc⟩ := hv.inv4
  obtain ⟨hk, hfl, hcl⟩ := hk
  unfold Mi.sayCheck
  refine q_if (et_not (et_B (ca_is_prop (ear_cons (er_var rfl hr) (ear_cons (er_var rfl rfl) ear_nil))))) (fun h => st_ret ?_) fun h => ?_
  · rw [if_pos (nb_t h)]
    exact er_no
  have h1 := nb_f h
  rw [if_neg (by rw [h1]; exact Bool.noConfusion)]
  refine q_if (et_or (et_not (et_B (ev_allB (bs := fs.map Mi.isFault) (er_l (by
      rw [List.map_map]
      exact er_all (er_lc fs dI (fun _ => true) (fun f => dB (Mi.isFault f)) (by omega) (er_var rfl hf) fun f v G1 hf' e1 hv => ⟨_, tg_name, rfl, et_yes, fun _ => er_v (ca_is_fault (ear_cons (er_var rfl hv) ear_nil))⟩)))))) fun _ =>
      et_not (et_B (ev_allB (bs := c.map fun n => decide (0 ≤ n) && decide (n ≤ 7)) (er_l (by
      rw [List.map_map]
      exact er_all (er_lc c dI (fun _ => true) (fun n => dB (decide (0 ≤ n) && decide (n ≤ 7))) (by omega) (er_var rfl hc) fun f v G1 hf' e1 hv => ⟨_, tg_name, rfl, et_yes, fun _ => er_v (ev_chain ev_c (ev_r (er_var rfl hv)) ev_c)⟩)))))) (fun h => st_ret ?_) fun h => ?_
  · rw [List.all_map, List.all_map] at h
    rw [if_pos (fun ⟨q1, q2⟩ => by
      have e1 : (fs.all (id ∘ Mi.isFault)) = true := q1
      have e2 : (c.all (id ∘ fun n => decide (0 ≤ n) && decide (n ≤ 7))) = true := q2
      rw [e1, e2] at h
      cases h)]
    exact er_no
  rw [List.all_map, List.all_map, Bool.or_eq_false_iff] at h
  have h2 : fs.all Mi.isFault = true := nb_f h.1
  have h3 : (c.all fun n => decide (0 ≤ n) && decide (n ≤ 7)) = true := nb_f h.2
  rw [if_neg (fun q => q ⟨h2, h3⟩)]
  refine q_if (et_not (et_B (ev_begun T (er_var rfl hr)))) (fun h => st_ret ?_) fun h => st_ret ?_
  · rw [if_pos (nb_t h)]
    exact er_no
  rw [if_neg (by rw [nb_f h]; exact Bool.noConfusion)]
  obtain ⟨n, rfl, hn⟩ := Mi.isProp_nat h1
  rw [Int.toNat_natCast]
  have hpos : ∀ f ∈ fs, 0 ≤ f := fun f hf => by
    have q := List.all_eq_true.mp h2 f hf
    unfold Mi.isFault at q
    rw [Bool.or_eq_true] at q
    rcases q with q | q
    · exact (of_decide_eq_true q).1
    · have := (of_decide_eq_true q).1
      omega
  have hc' : (dRow K (c.map Int.toNat)).p G e := by
    obtain ⟨q, xs, ev, hq, hx⟩ := hc
    exact ⟨q, xs, ev, hq, by
      rw [← ints_nat fun n hn => by
        have q := List.all_eq_true.mp h3 n hn
        rw [Bool.and_eq_true] at q
        exact of_decide_eq_true q.1]
      exact hx⟩
  exact er_lst (Rs := [dI 0, dI _, dI _]) (ear_cons (er_v ev_c) (ear_cons (er_v (ev_bit (et_B (ca_explains (ear_cons (er_var rfl hr) (ear_cons (er_var rfl rfl) (ear_cons (er_var rfl hf) (ear_cons (er_var rfl hc') ear_nil)))) ⟨hk, hn, hpos⟩)))) (ear_cons (er_v (ca_count_faults (ear_cons (er_var rfl hf) ear_nil) (by omega))) ear_nil))) (by show 3 ≤ 100000; decide)
theorem bd_say_vote (T : Txt K mg C) (r : Mi.Ro) (p : Int) {vs : List V} (hv : All2 G [dRo K C r, dI p] vs) (hk : Mi.Ok r) : St (t_say_vote K C) (start N_say_vote vs) G noN (dMI (Mi.sayVote r p)) := by
  obtain ⟨a, b, rfl, hr, rfl⟩ := hv.inv2
  unfold Mi.sayVote
  refine q_if (et_not (et_B (ca_is_prop (ear_cons (er_var rfl hr) (ear_cons (er_var rfl rfl) ear_nil))))) (fun h => st_ret ?_) fun h => ?_
  · rw [if_pos (nb_t h)]
    exact er_no
  have h1 := nb_f h
  rw [if_neg (by rw [h1]; exact Bool.noConfusion)]
  refine q_if (et_not (et_B (ev_begun T (er_var rfl hr)))) (fun h => st_ret ?_) fun h => ?_
  · rw [if_pos (nb_t h)]
    exact er_no
  rw [if_neg (by rw [nb_f h]; exact Bool.noConfusion)]
  obtain ⟨n, rfl, hn⟩ := Mi.isProp_nat h1
  rw [Int.toNat_natCast]
  have h4 := hk.one n
  refine q_asgR (S := dMI ((Mi.sensorsOf r n).map fun x => x.readings.getD r.now (-1))) (by
    refine er_mapI ?_
    exact er_all (er_lc (Mi.sensorsOf r n) (dSe C) (fun _ => true) (fun x => dI (x.readings.getD r.now (-1))) (by omega) (er_l (ca_sensors_of (ear_cons (er_var rfl hr) (ear_cons (er_var rfl rfl) ear_nil)) hk)) fun x v G1 hx e1 hv => ⟨_, tg_name, rfl, et_yes, fun _ => er_ixD (er_l (er_readings T (er_var rfl hv))) (ev_now T (er_var rfl (Rp.mono _ e1 hr))) (by have := (Mi.sensors_ok hk x hx).hl; omega)⟩)) fun z G1 e1 hz => ?_
  have hlen : (((Mi.sensorsOf r n).map fun x => x.readings.getD r.now (-1)).filter fun n => decide (0 ≤ n)).length ≤ 4 := by
    refine Nat.le_trans (List.length_filter_le _ _) ?_
    rw [List.length_map]
    exact h4
  refine q_asgR (S := dMI (Mi.votes r n)) (er_sorted (er_l (er_lc _ dI (fun n => decide (0 ≤ n)) dI (by rw [List.length_map]; omega) (er_l (er_var rfl hz)) fun x v G1 hx e1 hv => ⟨_, tg_name, rfl, et_test (ev_ge (ev_r (er_var rfl hv)) ev_c), fun _ => er_var rfl hv⟩)) (by omega)) fun y G2 e2 hy => ?_
  show St _ _ _ _ (dMI (if (Mi.votes r n).length = 0 then [-4] else [0, (Mi.votes r n).getD (((Mi.votes r n).length - 1) / 2) 0, ((Mi.votes r n).length : Int), (((Mi.votes r n).count ((Mi.votes r n).getD (((Mi.votes r n).length - 1) / 2) 0) : Nat) : Int)]))
  refine q_if (et_test (ev_eq (ev_lenM (er_var rfl hy)) ev_c)) (fun h => st_ret ?_) fun h => ?_
  · rw [if_pos (by have := of_decide_eq_true h; omega)]
    exact er_no
  have h0 := of_decide_eq_false h
  rw [if_neg (by omega)]
  refine q_asgV (v := .int ((Mi.votes r n).getD (((Mi.votes r n).length - 1) / 2) 0)) (ev_ixD (g := V.int) (er_l (er_var rfl hy)) (ev_eqv (ev_fdiv (ev_sub (ev_lenM (er_var rfl hy)) ev_c) ev_c ⟨by decide, by decide⟩) (by omega)) (by omega)) (st_ret ?_)
  exact er_lst (Rs := [dI 0, dI _, dI _, dI _]) (ear_cons (er_v ev_c) (ear_cons (er_v (ev_var rfl)) (ear_cons (er_v (ev_lenM (er_var rfl hy))) (ear_cons (er_v (ev_count (er_l (er_var rfl hy)) (ev_var rfl))) ear_nil)))) (by show 4 ≤ 100000; decide)
theorem bd_say_state (T : Txt K mg C) (r : Mi.Ro) {vs : List V} (hv : All2 G [dRo K C r] vs) (hk : True) : St (t_say_state K C) (start N_say_state vs) G noN (dMI (Mi.sayState r)) := by
  obtain ⟨a, rfl, hr⟩ := hv.inv1
  exact st_ret (er_lst (Rs := [dI 0, dI _, dI _, dI _, dI _, dI _]) (ear_cons (er_v ev_c) (ear_cons (er_v (ev_lenL (er_props T (er_var rfl hr)))) (ear_cons (er_v (ev_lenL (er_sensors T (er_var rfl hr)))) (ear_cons (er_v (ev_bit (et_B (ev_begun T (er_var rfl hr))))) (ear_cons (er_v (ev_now T (er_var rfl hr))) (ear_cons (er_v (ev_most T (er_var rfl hr))) ear_nil)))))) (by show 6 ≤ 100000; decide))
theorem bd_say_ways (T : Txt K mg C) (r : Mi.Ro) (p : Int) {vs : List V} (hv : All2 G [dRo K C r, dI p] vs) (hk : Mi.Ok r) : St (t_say_ways K C) (start N_say_ways vs) G noN (dMI (Mi.sayWays r p)) := by
  obtain ⟨a, b, rfl, hr, rfl⟩ := hv.inv2
  unfold Mi.sayWays
  refine q_if (et_not (et_B (ca_is_prop (ear_cons (er_var rfl hr) (ear_cons (er_var rfl rfl) ear_nil))))) (fun h => st_ret ?_) fun h => ?_
  · rw [if_pos (nb_t h)]
    exact er_no
  have h1 := nb_f h
  rw [if_neg (by rw [h1]; exact Bool.noConfusion)]
  refine q_if (et_not (et_B (ev_begun T (er_var rfl hr)))) (fun h => st_ret ?_) fun h => ?_
  · rw [if_pos (nb_t h)]
    exact er_no
  rw [if_neg (by rw [nb_f h]; exact Bool.noConfusion)]
  obtain ⟨n, rfl, hn⟩ := Mi.isProp_nat h1
  rw [Int.toNat_natCast]
  have h625 := Mi.leftOf_len hk hn
  refine q_asgR (ca_left_of (ear_cons (er_var rfl hr) (ear_cons (er_var rfl rfl) ear_nil)) ⟨hk, hn⟩) fun z G1 e1 hz => ?_
  refine q_build (Rs := [dI 0, dI ((Mi.leftOf r n).length : Int)]) (fun q σ2 G2 ys => (∃ y4 y5, σ2 = [some a, some (.int (n : Int)), some z, some (.ref q), y4, y5]) ∧ All2 G2 ((0 :: ((Mi.leftOf r n).length : Int) :: (Mi.leftOf r n).flatMap fun w => w.1).map dI) ys)
    (ear_cons (er_v ev_c) (ear_cons (er_v (ev_lenL (er_var rfl hz))) ear_nil)) (by show 2 ≤ 100000; decide) (fun q xs0 G2 e2 h0 => ?_) (fun q σ2 G2 ys e2 hp2 hn => ?_)
  · refine StB.to (sb_for (Mi.leftOf r n) (dWay K) (fun i σ' G' ys => (∃ y4 y5, σ' = [some a, some (.int (n : Int)), some z, some (.ref q), y4, y5]) ∧ All2 G' ((0 :: ((Mi.leftOf r n).length : Int) :: ((Mi.leftOf r n).take i).flatMap fun w => w.1).map dI) ys ∧ ys.length ≤ 2 + i * 4)
      (er_var rfl (Rp.mono _ e2 hz)) (fun G3 e3 => ⟨⟨none, none, rfl⟩, h0.mono e3, by rw [h0.length]; exact Nat.le_refl _⟩) fun i w v σ' G' ys hi e3 hv ⟨⟨y4, y5, es⟩, hys, hyl⟩ => ?_) fun σ2 G2 ys _ ⟨q1, q2, _⟩ => ⟨q1, by rw [List.take_length] at q2; exact q2⟩
    subst es
    obtain ⟨t, x, y, rfl, ht, hx, hy⟩ := tp_two hv
    have hil : i < (Mi.leftOf r n).length := (List.getElem?_eq_some_iff.mp hi).1
    have hwl : w.1.length ≤ 4 := by
      rw [(Mi.left_is hk hn w (List.mem_of_getElem? hi)).n]
      exact hk.one n
    refine ⟨_, tg_two rfl ht, sb_ext (Rs := w.1.map dI) rfl (er_var rfl hx) (by rw [List.length_map]; omega) fun us G4 e4 hu => ⟨⟨_, _, rfl⟩, ?_, ?_⟩⟩
    · have e5 : (0 :: ((Mi.leftOf r n).length : Int) :: ((Mi.leftOf r n).take (i + 1)).flatMap fun w => w.1) = (0 :: ((Mi.leftOf r n).length : Int) :: ((Mi.leftOf r n).take i).flatMap fun w => w.1) ++ w.1 := by
        rw [take_succ hi, List.flatMap_append, List.flatMap_cons, List.flatMap_nil, List.append_nil]
        rfl
      rw [e5, List.map_append]
      exact (hys.mono e4).append hu
    · rw [List.length_append, hu.length, List.length_map]
      omega
  · obtain ⟨⟨y4, y5, rfl⟩, hys⟩ := hn
    exact st_ret (er_var rfl ⟨q, ys, rfl, upd_same, hys.mono (Ex.new hp2)⟩)
end
end Sk
/-! part W10 -/
namespace Mi
theorem flatMap_const {α β : Type} {g : α → List β} {n : Nat} : ∀ {l : List α}, (∀ a ∈ l, (g a).length = n) → (l.flatMap g).length = l.length * n
  | [], _ => by rw [List.flatMap_nil, List.length_nil, List.length_nil, Nat.zero_mul]
  | a :: l, h => by
    rw [List.flatMap_cons, List.length_append, List.length_cons, Nat.add_mul, Nat.one_mul, h a List.mem_cons_self, flatMap_const fun b hb => h b (List.mem_cons_of_mem _ hb)]
    omega
theorem readsAhead_len {xs : List Se} {v : View} {told : List Nat} {now : Nat} (h : v.1.length = xs.length) : (readsAhead xs v told now).length = told.length * xs.length := by
  unfold readsAhead
  rw [flatMap_const (n := xs.length) fun t _ => by rw [List.length_map, List.length_zip]; omega, List.length_range]
theorem bwd_len {ms : List Int} {al : List (List Nat)} (h : RowsOk ms al) : ∀ k, (bwd ms al k).length ≤ 100
  | 0 => fwd_len h _
  | k + 1 => Nat.le_trans (List.length_filter_le _ _) (fwd_len h _)
theorem seats_row {ms : List Int} {al : List (List Nat)} (h : RowsOk ms al) : ∀ l ∈ seats ms al, l.length ≤ 100 := by
  intro l hl
  unfold seats at hl
  obtain ⟨k, _, rfl⟩ := List.mem_map.mp (List.mem_reverse.mp hl)
  exact bwd_len h k
theorem views_ok {r : Ro} (h : Ok r) {p : Nat} (hp : p < r.props.length) : ∀ v ∈ viewsLeft r p, ViewOk (sensorsOf r p) v r.now := by
  intro v hv
  unfold viewsLeft at hv
  obtain ⟨w, hw, rfl⟩ := List.mem_map.mp hv
  have hi := left_is h hp w hw
  have hr := rowsOk_of h hp hi
  refine ⟨sensors_ok h, Nat.le_trans (h.one p) (by decide), hi.n, hi.f, ?_, seats_row hr⟩
  show (seats _ _).length = _
  rw [seats_len, (pr_at h hp).2.2]
theorem views_len {r : Ro} (h : Ok r) {p : Nat} (hp : p < r.props.length) : (viewsLeft r p).length ≤ 625 := by
  unfold viewsLeft
  rw [List.length_map]
  exact leftOf_len h hp
theorem place_at {r : Ro} {i : Nat} (hi : i < r.sensors.length) : (sensorsOf r (seAt r i).prop)[placeOf r i]? = some (seAt r i) := by
  have e0 : r.sensors[i]? = some (seAt r i) := by
    unfold seAt
    rw [List.getD_eq_getElem?_getD, List.getElem?_eq_getElem hi]
    rfl
  have e1 : r.sensors = r.sensors.take i ++ seAt r i :: r.sensors.drop (i + 1) := by
    have q := (List.take_append_drop i r.sensors).symm
    rw [List.drop_eq_getElem_cons hi] at q
    have e2 : r.sensors[i] = seAt r i := by
      rw [List.getElem?_eq_getElem hi] at e0
      exact Option.some.inj e0
    rw [e2] at q
    exact q
  have e3 : ∀ n, n ≤ r.sensors.length → ((List.range n).filter fun k => (r.sensors.getD k ⟨0, 0, 0, []⟩).prop == (seAt r i).prop).length = ((r.sensors.take n).filter fun x => x.prop == (seAt r i).prop).length := by
    intro n
    induction n with
    | zero => intro _; rfl
    | succ n ih =>
      intro hn
      have hn' : n < r.sensors.length := by omega
      have e4 : r.sensors[n]? = some (r.sensors.getD n ⟨0, 0, 0, []⟩) := by
        rw [List.getD_eq_getElem?_getD, List.getElem?_eq_getElem hn']
        rfl
      rw [List.range_succ, List.filter_append, List.length_append, ih (by omega), Sk.take_succ e4, List.filter_append, List.length_append]
      congr 1
      rw [List.filter_cons, List.filter_cons]
      split <;> rfl
  have e5 : placeOf r i = ((r.sensors.take i).filter fun x => x.prop == (seAt r i).prop).length := e3 i (by omega)
  have e6 : sensorsOf r (seAt r i).prop = (r.sensors.take i).filter (fun x => x.prop == (seAt r i).prop) ++ seAt r i :: (r.sensors.drop (i + 1)).filter fun x => x.prop == (seAt r i).prop := by
    have q1 : r.sensors.filter (fun x => x.prop == (seAt r i).prop) = (r.sensors.take i ++ seAt r i :: r.sensors.drop (i + 1)).filter fun x => x.prop == (seAt r i).prop := congrArg (List.filter fun x : Se => x.prop == (seAt r i).prop) e1
    exact q1.trans (by rw [List.filter_append, List.filter_cons, if_pos (beq_self_eq_true _)])
  rw [e5, e6, List.getElem?_append_right (Nat.le_refl _), Nat.sub_self]
  rfl
theorem place_lt {r : Ro} {i : Nat} (hi : i < r.sensors.length) : placeOf r i < (sensorsOf r (seAt r i).prop).length := (List.getElem?_eq_some_iff.mp (place_at hi)).1
theorem find_at {α : Type} {c : α → Bool} : ∀ {l : List α} {k : Nat} {a : α}, l[k]? = some a → (∀ b ∈ l.take k, c b = false) → c a = true → l.find? c = some a
  | [], k, a, h, _, _ => by simp at h
  | b :: l, 0, a, h, _, q => by
    simp at h
    subst h
    rw [List.find?_cons, q]
  | b :: l, k + 1, a, h, hb, q => by
    rw [List.find?_cons, hb b (by rw [List.take_succ_cons]; exact List.mem_cons_self)]
    exact find_at (k := k) (by simpa using h) (fun x hx => hb x (by rw [List.take_succ_cons]; exact List.mem_cons_of_mem _ hx)) q
theorem newest_len {size : Nat} (hs : size ≤ 8) : ∀ n, (newest size n).length ≤ 8 ^ n ∧ ∀ l ∈ newest size n, l.length = n
  | 0 => ⟨Nat.le_refl _, fun l hl => by rw [List.mem_singleton.mp hl]; rfl⟩
  | n + 1 => by
    obtain ⟨h1, h2⟩ := newest_len hs n
    refine ⟨?_, fun l hl => ?_⟩
    · refine Nat.le_trans (flatMap_len (n := size) fun row _ => by rw [List.length_map, List.length_range]; exact Nat.le_refl _) ?_
      rw [Nat.pow_succ]
      exact Nat.mul_le_mul h1 hs
    · obtain ⟨row, hr, hl⟩ := List.mem_flatMap.mp hl
      obtain ⟨p, _, rfl⟩ := List.mem_map.mp hl
      rw [List.length_append, h2 row hr]
      rfl
theorem candidates_len {size : Nat} (hs : size ≤ 8) : ∀ n, n ≤ 2 → (candidates size n).length ≤ 100 ∧ ∀ l ∈ candidates size n, l.length ≤ 2
  | 0, _ => ⟨by show 1 ≤ 100; decide, fun l hl => by rw [List.mem_singleton.mp hl]; exact Nat.zero_le _⟩
  | 1, _ => by
    have h := newest_len hs 1
    refine ⟨?_, fun l hl => ?_⟩
    · show ([[]] ++ newest size 1).length ≤ 100
      rw [List.length_append]
      have := h.1
      show 1 + _ ≤ _
      omega
    · rcases List.mem_append.mp (show l ∈ [[]] ++ newest size 1 from hl) with q | q
      · rw [List.mem_singleton.mp q]
        exact Nat.zero_le _
      · rw [h.2 l q]
        decide
  | 2, _ => by
    have h := newest_len hs 2
    have h1 := candidates_len hs 1 (by decide)
    have h3 : (candidates size 1).length ≤ 9 := by
      have := (newest_len hs 1).1
      show ([[]] ++ newest size 1).length ≤ 9
      rw [List.length_append]
      show 1 + _ ≤ _
      omega
    refine ⟨?_, fun l hl => ?_⟩
    · show (candidates size 1 ++ newest size 2).length ≤ 100
      rw [List.length_append]
      have := h.1
      omega
    · rcases List.mem_append.mp (show l ∈ candidates size 1 ++ newest size 2 from hl) with q | q
      · exact h1.2 l q
      · rw [h.2 l q]
        decide
  | n + 3, h => by omega
end Mi
namespace Sk
open PySem PySem.Spec PyProof.Rows L2 Evl
section
variable {K : PySem.W.Frag} {mg : Str → Option Value} {C : Cs} {G : Hp} {σ : L2.St} {te ta tb : TE}
theorem bd_around (T : Txt K mg C) (x : Mi.Se) (p : Nat) {vs : List V} (hv : All2 G [dSe C x, dN p] vs) (hk : True) : St (t_around K C) (start N_around vs) G noN (dSpan K (Mi.around x p)) := by
  obtain ⟨a, b, rfl, hx, rfl⟩ := hv.inv2
  exact st_ret (er_tup (ear_cons (er_v (ev_max2 ev_c (ev_sub (ev_var rfl) (ev_error T (er_var rfl hx))))) (ear_cons (er_v (ev_add (ev_var rfl) (ev_error T (er_var rfl hx)))) ear_nil)) (by show 2 ≤ 100000; decide))
theorem bd_stuck_reads (T : Txt K mg C) (x : Mi.Se) (t : Nat) {vs : List V} (hv : All2 G [dSe C x, dN t] vs) (hk : x.readings.length ≤ 100) : St (t_stuck_reads K C) (start N_stuck_reads vs) G noN (dM ((Mi.stuckReads x t).map (dSpan K))) := by
  obtain ⟨a, b, rfl, hx, rfl⟩ := hv.inv2
  refine q_asgR (ca_readings_from (ear_cons (er_var rfl hx) (ear_cons (er_var rfl rfl) ear_nil)) hk) fun y G2 e hy => ?_
  unfold Mi.stuckReads
  refine q_if (et_test (ev_eq (ev_lenM (er_var rfl hy)) ev_c)) (fun h => st_ret ?_) fun h => st_ret ?_
  · have h1 : Mi.readingsFrom x t = [] := List.eq_nil_of_length_eq_zero (by have := of_decide_eq_true h; omega)
    rw [h1]
    exact er_lst (Rs := [dTp K [dI 0, dI 1000]]) (ear_cons (er_tup (ear_cons (er_v ev_c) (ear_cons (er_v ev_c) ear_nil)) (by show 2 ≤ 100000; decide)) ear_nil) (by show 1 ≤ 100000; decide)
  · have h1 := of_decide_eq_false h
    cases hc : Mi.readingsFrom x t with
    | nil => exact (h1 (by rw [hc]; rfl)).elim
    | cons n r =>
      have hi : Ev (tOp (rIxL K) (tVar 2) (tC (.int 0))) [some a, some (.int (t : Int)), some y] G2 (.int n) := by
        have q := ev_ixD (K := K) (n := 0) (g := V.int) (d := 0) (er_l (er_var (i := 2) (σ := [some a, some (.int (t : Int)), some y]) rfl hy)) (ev_c (v := .int 0)) (by rw [hc]; exact Nat.zero_lt_succ _)
        rw [hc] at q
        exact q
      exact er_lst (Rs := [dTp K [dI n, dI n]]) (ear_cons (er_tup (ear_cons (er_v hi) (ear_cons (er_v hi) ear_nil)) (by show 2 ≤ 100000; decide)) ear_nil) (by show 1 ≤ 100000; decide)
theorem bd_may_read (T : Txt K mg C) (x : Mi.Se) (f : Int) (been : List (List Nat)) (told : List Nat) (turn : Nat) (now : Nat) {vs : List V} (hv : All2 G [dSe C x, dI f, dRows K been, dRow K told, dN turn, dN now] vs) (hk : Mi.SeOk x now ∧ Mi.FaultOk f ∧ turn < told.length ∧ been.length = now + 1 ∧ ∀ l ∈ been, l.length ≤ 100) : St (t_may_read K C) (start N_may_read vs) G noN (dM ((Mi.mayRead x f been told turn now).map (dSpan K))) := by
  obtain ⟨a, b, c, d, e, g, rfl, hx, rfl, hb, ht, rfl, rfl⟩ := hv.inv6
  obtain ⟨hse, ⟨hf0, hf3⟩, htl, hbl, hrow⟩ := hk
  have h4 := hse.hl
  have h5 := hse.hn
  have h6 := hse.hf
  unfold Mi.mayRead
  refine q_if (et_test (ev_ge (ev_var rfl) ev_c)) (fun h => st_ret ?_) fun h => ?_
  · have h1 := of_decide_eq_true h
    rw [if_pos h1]
    exact ca_stuck_reads (ear_cons (er_var rfl hx) (ear_cons (er_v (ev_eqv (ev_sub (ev_var rfl) ev_c) (show f - 100 = (((f - 100).toNat : Nat) : Int) by omega))) ear_nil)) (by omega)
  have h1 := of_decide_eq_false h
  rw [if_neg h1]
  refine q_asgV (ev_sub (ev_add (ev_add (ev_var rfl) ev_c) (ev_var rfl)) (ev_var rfl)) ?_
  refine q_if (et_test (ev_gt (ev_var rfl) (ev_var rfl))) (fun h => st_ret ?_) fun h => ?_
  · have h2 := of_decide_eq_true h
    rw [if_pos h2]
    refine er_lst (Rs := [dSpan K (Mi.around x (told.getD ((turn : Int) - f).toNat 0))]) (ear_cons (ca_around (ear_cons (er_var rfl hx) (ear_cons (er_ixD (f := dN) (d := 0) (er_var rfl ht) (ev_eqv (ev_sub (ev_sub (ev_var rfl) (ev_var rfl)) ev_c) (show (now : Int) + 1 + (turn : Int) - f - now - 1 = ((((turn : Int) - f).toNat : Nat) : Int) by omega)) (by omega)) ear_nil))) ear_nil) (by show 1 ≤ 100000; decide)
  have h2 := of_decide_eq_false h
  rw [if_neg h2]
  refine q_if (et_test (ev_lt (ev_var rfl) (ev_first T (er_var rfl hx)))) (fun h => st_ret ?_) fun h => st_ret ?_
  · rw [if_pos (of_decide_eq_true h)]
    exact er_lst (Rs := [dTp K [dI 0, dI 1000]]) (ear_cons (er_tup (ear_cons (er_v ev_c) (ear_cons (er_v ev_c) ear_nil)) (by show 2 ≤ 100000; decide)) ear_nil) (by show 1 ≤ 100000; decide)
  · have h3 := of_decide_eq_false h
    rw [if_neg h3, List.map_map]
    have hlt : ((now : Int) + 1 + (turn : Int) - f).toNat < been.length := by omega
    have hrl : (been.getD ((now : Int) + 1 + (turn : Int) - f).toNat []).length ≤ 100 := by
      rw [List.getD_eq_getElem?_getD, List.getElem?_eq_getElem hlt]
      exact hrow _ (List.getElem_mem hlt)
    exact er_all (er_lc _ dN (fun _ => true) (fun p => dSpan K (Mi.around x p)) (by omega) (er_ixD (f := dRow K) (d := []) (er_var rfl hb) (ev_eqv (ev_var rfl) (show (now : Int) + 1 + (turn : Int) - f = ((((now : Int) + 1 + (turn : Int) - f).toNat : Nat) : Int) by omega)) hlt)
      fun p v G1 hp e1 hv => ⟨_, tg_name, rfl, et_yes, fun _ => ca_around (ear_cons (er_var rfl (Rp.mono _ e1 hx)) (ear_cons (er_var rfl hv) ear_nil))⟩)
theorem bd_reads_ahead (T : Txt K mg C) (xs : List Mi.Se) (v : Mi.View) (told : List Nat) (now : Nat) {vs : List V} (hv : All2 G [dSes K C xs, dWay K v, dRow K told, dN now] vs) (hk : Mi.ViewOk xs v now ∧ told.length ≤ 100) : St (t_reads_ahead K C) (start N_reads_ahead vs) G noN (dM ((Mi.readsAhead xs v told now).map (dSpans K))) := by
  obtain ⟨a, b, c, d, rfl, hxs, hvw, ht, rfl⟩ := hv.inv4
  obtain ⟨hk, htl⟩ := hk
  have h8 := hk.few
  have hvl := hk.len
  refine q_asg2 (K := K) (R1 := dMI v.1) (R2 := dRows K v.2) (er_var rfl hvw) fun f b2 G1 e1 hf hb => ?_
  have hzl : (xs.zip v.1).length = xs.length := by rw [List.length_zip]; omega
  refine q_build (Rs := []) (fun p σ2 G2 ys => (∃ y7 y8 y9, σ2 = [some a, some b, some c, some (.int (now : Int)), some f, some b2, some (.ref p), y7, y8, y9]) ∧ All2 G2 ((Mi.readsAhead xs v told now).map (dSpans K)) ys) ear_nil (Nat.zero_le _) (fun p xs0 G2 e2 h0 => ?_) (fun p σ2 G2 ys e2 hp2 hn => ?_)
  · cases h0
    refine StB.to (sb_forR1 told.length (fun i σ' G' ys => (∃ y7 y8 y9, σ' = [some a, some b, some c, some (.int (now : Int)), some f, some b2, some (.ref p), y7, y8, y9]) ∧ All2 G' (((List.range i).flatMap fun turn => (xs.zip v.1).map fun (x : Mi.Se × Int) => Mi.mayRead x.1 x.2 v.2 told turn now).map (dSpans K)) ys)
      (ea_cons (ev_lenL (er_var rfl (Rp.mono _ (e1.trans e2) ht))) ea_nil) (by omega) ⟨⟨none, none, none, rfl⟩, .nil⟩ fun i σ' G' ys hi e3 ⟨⟨y7, y8, y9, es⟩, hys⟩ => ?_) fun σ2 G2 ys _ h => h
    subst es
    have e13 := e2.trans e3
    have hpl : ((List.range i).flatMap fun turn => (xs.zip v.1).map fun (x : Mi.Se × Int) => Mi.mayRead x.1 x.2 v.2 told turn now).length = i * xs.length := by
      rw [Mi.flatMap_const (n := xs.length) fun t _ => by rw [List.length_map, hzl], List.length_range]
    refine ⟨_, tg_name, StB.to (sb_forZ xs v.1 (dSe C) dI (fun k σ' G' ys => (∃ y8 y9, σ' = [some a, some b, some c, some (.int (now : Int)), some f, some b2, some (.ref p), some (.int (i : Int)), y8, y9]) ∧
        All2 G' ((((List.range i).flatMap fun turn => (xs.zip v.1).map fun (x : Mi.Se × Int) => Mi.mayRead x.1 x.2 v.2 told turn now) ++ ((xs.zip v.1).take k).map fun (x : Mi.Se × Int) => Mi.mayRead x.1 x.2 v.2 told i now).map (dSpans K)) ys)
      hvl.symm (ear_cons (er_var rfl (Rp.mono _ (e1.trans e13) hxs)) (ear_cons (er_var rfl (dM_ls (Rp.mono _ e13 hf))) ear_nil)) (fun G4 e4 => ⟨⟨y8, y9, rfl⟩, by
        rw [List.take_zero, List.map_nil, List.append_nil]
        exact hys.mono e4⟩) (fun _ _ _ _ _ e ⟨q1, q2⟩ => ⟨q1, q2.mono e⟩) fun k x fx vx vf Ta σ' G4 ys hx hfx e4 hvx hvf hT ⟨⟨y8, y9, es⟩, hys⟩ => ?_) fun σ2 G4 ys _ ⟨⟨y8, y9, h1⟩, h2⟩ => ⟨⟨_, _, _, h1⟩, ?_⟩⟩
    · subst es
      have hk2 : (xs.zip v.1)[k]? = some (x, fx) := by
        rw [List.getElem?_zip_eq_some]
        exact ⟨hx, hfx⟩
      have hkl : k < xs.length := (List.getElem?_eq_some_iff.mp hx).1
      have e14 := e13.trans e4
      refine ⟨_, tg_two rfl hT, sb_app rfl (ca_may_read (ear_cons (er_var rfl hvx) (ear_cons (er_var rfl hvf) (ear_cons (er_var rfl (Rp.mono _ e14 hb)) (ear_cons (er_var rfl (Rp.mono _ (e1.trans e14) ht)) (ear_cons (er_var rfl rfl) (ear_cons (er_var rfl rfl) ear_nil))))))
        ⟨hk.se x (List.mem_of_getElem? hx), hk.faults fx (List.mem_of_getElem? hfx), hi, hk.been, hk.row⟩) ?_ fun u G5 e5 hr => ⟨⟨_, _, rfl⟩, ?_⟩⟩
      · rw [hys.length, List.length_map, List.length_append, hpl, List.length_map, List.length_take]
        have : i * xs.length ≤ 100 * 8 := Nat.mul_le_mul (by omega) h8
        omega
      · have e6 : ∀ (pre : List (List Mi.Span)), pre ++ ((xs.zip v.1).take (k + 1)).map (fun (x : Mi.Se × Int) => Mi.mayRead x.1 x.2 v.2 told i now) = (pre ++ ((xs.zip v.1).take k).map fun (x : Mi.Se × Int) => Mi.mayRead x.1 x.2 v.2 told i now) ++ [Mi.mayRead x fx v.2 told i now] := fun pre => by
          rw [take_succ hk2, List.map_append, ← List.append_assoc]
          rfl
        rw [e6, List.map_append]
        exact (hys.mono e5).append (.one (dM_ls hr))
    · rw [← hzl, List.take_length] at h2
      rw [List.range_succ, List.flatMap_append, List.flatMap_cons, List.flatMap_nil, List.append_nil]
      exact h2
  · obtain ⟨⟨y7, y8, y9, rfl⟩, hys⟩ := hn
    exact st_ret (er_var rfl ⟨p, ys, rfl, upd_same, hys.mono (Ex.new hp2)⟩)
theorem bd_share (T : Txt K mg C) (a : List Mi.Span) (b : List Mi.Span) {vs : List V} (hv : All2 G [dSpans K a, dSpans K b] vs) (hk : True) : St (t_share K C) (start N_share vs) G noN (dV (.bl (Mi.share a b))) := by
  obtain ⟨x, y, rfl, ha, hb⟩ := hv.inv2
  unfold Mi.share
  refine st_seq (st_for a (dSpan K) (fun i σ' _ => (∃ y2 y3 y4 y5, σ' = [some x, some y, y2, y3, y4, y5]) ∧ ∀ s ∈ a.take i, (b.any fun t => decide (s.1 ≤ t.2) && decide (t.1 ≤ s.2)) = false) (er_var rfl ha) (fun _ _ => ⟨⟨none, none, none, none, rfl⟩, fun s h => by simp at h⟩)
    fun i s v σ' G' hi e hs ⟨⟨y2, y3, y4, y5, es⟩, hall⟩ => ?_) fun σ2 G2 e ⟨⟨y2, y3, y4, y5, es⟩, hall⟩ => st_ret (er_v ?_)
  · subst es
    obtain ⟨t, l, g, ev, ht, hl, hg⟩ := tp_two hs
    refine ⟨_, tg_two ev ht, St.to (st_find2 b (fun s => dI s.1) (fun s => dI s.2) (fun t => decide (s.1 ≤ t.2) && decide (t.1 ≤ s.2)) (er_var rfl (Rp.mono _ e hb)) (fun u vx vy z4 z5 G3 hu e3 hvx hvy => ⟨_, et_and (et_test (ev_le (ev_r (er_var rfl (Rp.mono (dI s.1) e3 hl))) (ev_r (er_var rfl hvy)))) fun _ => et_test (ev_le (ev_r (er_var rfl hvx)) (ev_r (er_var rfl (Rp.mono (dI s.2) e3 hg)))), rfl, fun h => er_v ?_⟩) (by decide)) fun σ3 G3 e3 ⟨⟨z4, z5, es⟩, hall2⟩ => ⟨⟨_, _, _, _, es⟩, fun s' hs' => ?_⟩⟩
    · rw [any_true (p := fun s => b.any fun t => decide (s.1 ≤ t.2) && decide (t.1 ≤ s.2)) (List.mem_of_getElem? hi) (any_true (p := fun t => decide (s.1 ≤ t.2) && decide (t.1 ≤ s.2)) hu h)]
      exact ev_c
    · rw [take_succ hi] at hs'
      rcases List.mem_append.mp hs' with q | q
      · exact hall s' q
      · rw [List.mem_singleton.mp q]
        exact any_none hall2
  · rw [List.take_length] at hall
    rw [any_none hall]
    exact ev_c
theorem bd_alike (T : Txt K mg C) (a : List (List Mi.Span)) (b : List (List Mi.Span)) {vs : List V} (hv : All2 G [dAhead K a, dAhead K b] vs) (hk : a.length = b.length) : St (t_alike K C) (start N_alike vs) G noN (dV (.bl (Mi.alike a b))) := by
  obtain ⟨x, y, rfl, ha, hb⟩ := hv.inv2
  unfold Mi.alike
  refine st_seq (st_findZ a b (dSpans K) (dSpans K) (fun s t => !Mi.share s t) hk (by decide) (ear_cons (er_var rfl ha) (ear_cons (er_var rfl hb) ear_nil)) fun s t vx vy z1 z2 G' hm e hx hy => ⟨_, et_not (et_B (ca_share (ear_cons (er_var rfl hx) (ear_cons (er_var rfl hy) ear_nil)))), rfl, fun h => er_v ?_⟩) fun σ2 G2 e ⟨⟨z1, z2, es⟩, hall⟩ => st_ret (er_v ?_)
  · rw [all_false (p := fun x : List Mi.Span × List Mi.Span => Mi.share x.1 x.2) hm (nb_t h)]
    exact ev_c
  · rw [List.all_eq_true.mpr fun p hp => nb_f (hall p hp)]
    exact ev_c
theorem bd_none_alike (T : Txt K mg C) (a : List (List (List Mi.Span))) (b : List (List (List Mi.Span))) {vs : List V} (hv : All2 G [dL K (dAhead K) a, dL K (dAhead K) b] vs) (hk : ∀ x ∈ a, ∀ y ∈ b, x.length = y.length) : St (t_none_alike K C) (start N_none_alike vs) G noN (dV (.bl (Mi.noneAlike a b))) := by
  obtain ⟨x, y, rfl, ha, hb⟩ := hv.inv2
  unfold Mi.noneAlike
  refine st_seq (st_for a (dAhead K) (fun i σ' _ => (∃ y2 y3, σ' = [some x, some y, y2, y3]) ∧ ∀ s ∈ a.take i, (b.all fun t => !Mi.alike s t) = true) (er_var rfl ha) (fun _ _ => ⟨⟨none, none, rfl⟩, fun s h => by simp at h⟩)
    fun i s v σ' G' hi e hs ⟨⟨y2, y3, es⟩, hall⟩ => ?_) fun σ2 G2 e ⟨⟨y2, y3, es⟩, hall⟩ => st_ret (er_v ?_)
  · subst es
    have hsm := List.mem_of_getElem? hi
    refine ⟨_, tg_name, St.to (st_find b (dAhead K) (fun t => Mi.alike s t) (er_var rfl (Rp.mono _ e hb)) fun u vu z3 G3 hu e3 hvu => ⟨_, et_B (ca_alike (ear_cons (er_var rfl (Rp.mono _ e3 hs)) (ear_cons (er_var rfl hvu) ear_nil)) (hk s hsm u hu)), rfl, fun h => er_v ?_⟩) fun σ3 G3 e3 ⟨⟨z3, es⟩, hall2⟩ => ⟨⟨_, _, es⟩, fun s' hs' => ?_⟩⟩
    · rw [all_false (p := fun s => b.all fun t => !Mi.alike s t) hsm (all_false (p := fun t => !Mi.alike s t) hu (by rw [h]; rfl))]
      exact ev_c
    · rw [take_succ hi] at hs'
      rcases List.mem_append.mp hs' with q | q
      · exact hall s' q
      · rw [List.mem_singleton.mp q]
        exact List.all_eq_true.mpr fun t ht => by rw [hall2 t ht]; rfl
  · rw [List.take_length] at hall
    rw [List.all_eq_true.mpr hall]
    exact ev_c
theorem bd_views_left (T : Txt K mg C) (r : Mi.Ro) (p : Nat) {vs : List V} (hv : All2 G [dRo K C r, dN p] vs) (hk : Mi.Ok r ∧ p < r.props.length) : St (t_views_left K C) (start N_views_left vs) G noN (dM ((Mi.viewsLeft r p).map (dWay K))) := by
  obtain ⟨a, b, rfl, hr, rfl⟩ := hv.inv2
  obtain ⟨hk, hp⟩ := hk
  unfold Mi.viewsLeft
  rw [List.map_map]
  refine q_asgR (er_moves T (er_ixD (d := ⟨0, []⟩) (er_props T (er_var rfl hr)) (ev_var rfl) hp)) fun m G1 e1 hm => st_ret ?_
  have hr1 := Rp.mono _ e1 hr
  refine er_items (f := fun w => dTp K [dMI w.1, dM ((Mi.seats (Mi.prAt r p).moves w.2).map (dRow K))]) (er_all (er_lc (Mi.leftOf r p) (dWay K) (fun _ => true) _ (Nat.le_trans (Mi.leftOf_len hk hp) (by decide)) (ca_left_of (ear_cons (er_var rfl hr1) (ear_cons (er_var rfl rfl) ear_nil)) ⟨hk, hp⟩) fun w v G2 hw e2 hv => ?_)) fun w _ v q => ?_
  · obtain ⟨q, x, y, rfl, hq, hx, hy⟩ := tp_two hv
    exact ⟨_, tg_two rfl hq, rfl, et_yes, fun _ => er_tup (ear_cons (er_var rfl hx) (ear_cons (ca_seats (ear_cons (er_var rfl (dM_ls (Rp.mono _ e2 hm))) (ear_cons (er_var rfl hy) ear_nil)) (Mi.rowsOk_of hk hp (Mi.left_is hk hp w hw))) ear_nil)) (by show 2 ≤ 100000; decide)⟩
  · obtain ⟨t, x, y, rfl, ht, hx, hy⟩ := tp_two q
    exact ⟨t, [x, y], rfl, ht, .cons hx (.cons (dM_ls hy) .nil)⟩
end
end Sk
/-! part W11 -/
namespace Mi
theorem overlap_ok {ms : List Int} {al rows : List (List Nat)} (h : RowsOk ms al) (hr : rows.length = ms.length) : RowsOk ms (overlap al rows) :=
  ⟨by rw [overlap_len (by rw [h.len, hr]), h.len], h.pos, h.lim, overlap_row h.row⟩
theorem prop_lt {r : Ro} (h : Ok r) {i : Nat} (hi : i < r.sensors.length) : (seAt r i).prop < r.props.length := (h.se _ (se_mem hi)).1
theorem left_get {r : Ro} {p : Nat} : (allLeft r).getD p [] = leftOf r p := rfl
theorem firstSettling_len {r : Ro} (h : Ok r) {i n : Nat} (hi : i < r.sensors.length) (hn : n ≤ 2) : (firstSettling r i n).length ≤ 100 := by
  unfold firstSettling
  split
  · rename_i l hl
    have h1 := (candidates_len (pr_at h (prop_lt h hi)).2.1 n hn).2 l (List.mem_of_find?_eq_some hl)
    show (Mi.toInts l).length + 1 ≤ 100
    unfold Mi.toInts
    rw [List.length_map]
    omega
  · show 1 ≤ 100
    decide
end Mi
namespace Sk
open PySem PySem.Spec PyProof.Rows L2 Evl
section
variable {K : PySem.W.Frag} {mg : Str → Option Value} {C : Cs} {G : Hp} {σ : L2.St} {te ta tb : TE}
theorem bd_told_settle (T : Txt K mg C) (xs : List Mi.Se) (place : Nat) (vs' : List Mi.View) (told : List Nat) (now : Nat) {vs : List V} (hv : All2 G [dSes K C xs, dN place, dWays K vs', dRow K told, dN now] vs) (hk : (∀ v ∈ vs', Mi.ViewOk xs v now) ∧ vs'.length ≤ 10000 ∧ told.length ≤ 100 ∧ place < xs.length) : St (t_told_settle K C) (start N_told_settle vs) G noN (dV (.bl (Mi.toldSettle xs place vs' told now))) := by
  obtain ⟨a, b, c, d, e, rfl, hxs, rfl, hvs, ht, rfl⟩ := hv.inv5
  obtain ⟨hok, hvl, htl, hpl⟩ := hk
  have hlen : ∀ v ∈ vs', (Mi.readsAhead xs v told now).length = told.length * xs.length := fun v hv => Mi.readsAhead_len (hok v hv).len
  refine q_asgR (er_lc vs' (dWay K) (fun v => decide (v.1.getD place 0 = 0)) (fun v => dM ((Mi.readsAhead xs v told now).map (dSpans K))) (by omega) (er_var rfl hvs) fun v w G1 hv e1 hw => ⟨_, tg_name, rfl,
    et_test (ev_eq (ev_ixD (g := V.int) (d := 0) (er_l (er_ixT (rs := [dMI v.1, dRows K v.2]) (j := 0) (er_var rfl hw) ev_c rfl)) (ev_var rfl) (by rw [(hok v hv).len]; exact hpl)) ev_c),
    fun _ => ca_reads_ahead (ear_cons (er_var rfl (Rp.mono _ e1 hxs)) (ear_cons (er_var rfl hw) (ear_cons (er_var rfl (Rp.mono _ e1 ht)) (ear_cons (er_var rfl rfl) ear_nil)))) ⟨hok v hv, htl⟩⟩) fun f G1 e1 hf => ?_
  refine q_asgR (er_lc vs' (dWay K) (fun v => !decide (v.1.getD place 0 = 0)) (fun v => dM ((Mi.readsAhead xs v told now).map (dSpans K))) (by omega) (er_var rfl (Rp.mono _ e1 hvs)) fun v w G2 hv e2 hw => ⟨_, tg_name, rfl,
    et_test (ev_ne (ev_ixD (g := V.int) (d := 0) (er_l (er_ixT (rs := [dMI v.1, dRows K v.2]) (j := 0) (er_var rfl hw) ev_c rfl)) (ev_var rfl) (by rw [(hok v hv).len]; exact hpl)) ev_c),
    fun _ => ca_reads_ahead (ear_cons (er_var rfl (Rp.mono _ (e1.trans e2) hxs)) (ear_cons (er_var rfl hw) (ear_cons (er_var rfl (Rp.mono _ (e1.trans e2) ht)) (ear_cons (er_var rfl rfl) ear_nil)))) ⟨hok v hv, htl⟩⟩) fun g G2 e2 hg => st_ret (er_v ?_)
  unfold Mi.toldSettle
  refine ca_none_alike (ear_cons (er_l (by
      rw [List.map_map]
      exact er_items (er_var rfl (Rp.mono _ e2 hf)) fun _ _ _ q => dM_ls q)) (ear_cons (er_l (by
      rw [List.map_map]
      exact er_items (er_var rfl hg) fun _ _ _ q => dM_ls q)) ear_nil)) fun x hx y hy => ?_
  obtain ⟨v, hv, rfl⟩ := List.mem_map.mp hx
  obtain ⟨w, hw, rfl⟩ := List.mem_map.mp hy
  rw [hlen v (List.mem_filter.mp hv).1, hlen w (List.mem_filter.mp hw).1]
theorem bd_longer_rows (T : Txt K mg C) (rows : List (List Nat)) (size : Nat) {vs : List V} (hv : All2 G [dL K dMN rows, dN size] vs) (hk : rows.length ≤ 1000 ∧ size ≤ 8 ∧ ∀ l ∈ rows, l.length ≤ 100) : St (t_longer_rows K C) (start N_longer_rows vs) G noN (dM ((Mi.longerRows rows size).map dMN)) := by
  obtain ⟨a, b, rfl, hr, rfl⟩ := hv.inv2
  obtain ⟨hrl, hs, hrow⟩ := hk
  refine q_build (Rs := []) (fun p σ2 G2 ys => (∃ y3 y4, σ2 = [some a, some (.int (size : Int)), some (.ref p), y3, y4]) ∧ All2 G2 ((Mi.longerRows rows size).map dMN) ys) ear_nil (Nat.zero_le _) (fun p xs0 G2 e2 h0 => ?_) (fun p σ2 G2 ys e2 hp2 hn => ?_)
  · cases h0
    refine StB.to (sb_for rows dMN (fun i σ' G' ys => (∃ y3 y4, σ' = [some a, some (.int (size : Int)), some (.ref p), y3, y4]) ∧ All2 G' ((Mi.longerRows (rows.take i) size).map dMN) ys)
      (er_var rfl (Rp.mono _ e2 hr)) (fun _ _ => ⟨⟨none, none, rfl⟩, .nil⟩) fun i row v σ' G' ys hi e3 hv ⟨⟨y3, y4, es⟩, hys⟩ => ?_) fun σ2 G2 ys _ ⟨q1, q2⟩ => ⟨q1, by rw [List.take_length] at q2; exact q2⟩
    subst es
    have hil : i < rows.length := (List.getElem?_eq_some_iff.mp hi).1
    have hpl : (Mi.longerRows (rows.take i) size).length ≤ i * 8 := by
      refine Nat.le_trans (Mi.flatMap_len (n := size) fun row _ => by rw [List.length_map, List.length_range]; exact Nat.le_refl _) ?_
      rw [List.length_take]
      exact Nat.mul_le_mul (Nat.min_le_left _ _) hs
    refine ⟨_, tg_name, StB.to (sb_forR1 size (fun k σ' G' ys => (∃ y4, σ' = [some a, some (.int (size : Int)), some (.ref p), some v, y4]) ∧ All2 G' ((Mi.longerRows (rows.take i) size ++ (List.range k).map fun q => row ++ [q]).map dMN) ys)
      (ea_cons (ev_var rfl) ea_nil) (by omega) ⟨⟨y4, rfl⟩, by rw [List.range_zero, List.map_nil, List.append_nil]; exact hys⟩ fun k σ' G4 ys hk e4 ⟨⟨y4, es⟩, hys⟩ => ?_) fun σ2 G4 ys _ ⟨⟨y4, h1⟩, h2⟩ => ⟨⟨_, _, h1⟩, ?_⟩⟩
    · subst es
      refine ⟨_, tg_name, sb_app rfl (er_catL (m := [k]) (er_var rfl (Rp.mono _ e4 hv)) (er_lst (Rs := [dN k]) (ear_cons (er_var rfl rfl) ear_nil) (by show 1 ≤ 100000; decide)) (by have := hrow row (List.mem_of_getElem? hi); show _ + 1 ≤ _; omega)) ?_ fun u G5 e5 hu => ⟨⟨_, rfl⟩, ?_⟩⟩
      · rw [hys.length, List.length_map, List.length_append, List.length_map, List.length_range]
        omega
      · rw [range_snoc, ← List.append_assoc, List.map_append]
        exact (hys.mono e5).append (.one hu)
    · have e6 : Mi.longerRows (rows.take (i + 1)) size = Mi.longerRows (rows.take i) size ++ (List.range size).map fun q => row ++ [q] := by
        unfold Mi.longerRows
        rw [take_succ hi, List.flatMap_append, List.flatMap_cons, List.flatMap_nil, List.append_nil]
      rw [e6]
      exact h2
  · obtain ⟨⟨y3, y4, rfl⟩, hys⟩ := hn
    exact st_ret (er_var rfl ⟨p, ys, rfl, upd_same, hys.mono (Ex.new hp2)⟩)
theorem bd_candidates (T : Txt K mg C) (size : Nat) (many : Nat) {vs : List V} (hv : All2 G [dN size, dN many] vs) (hk : size ≤ 8 ∧ many ≤ 2) : St (t_candidates K C) (start N_candidates vs) G noN (dM ((Mi.candidates size many).map dMN)) := by
  obtain ⟨a, b, rfl, rfl, rfl⟩ := hv.inv2
  obtain ⟨hs, hm⟩ := hk
  refine q_asgR (S := dM (([[]] : List (List Nat)).map dMN)) (er_lst (Rs := [dM []]) (ear_cons (er_lst ear_nil (Nat.zero_le _)) ear_nil) (by show 1 ≤ 100000; decide)) fun x G1 e1 hx => ?_
  refine q_asgR (S := dM (([[]] : List (List Nat)).map dMN)) (er_lst (Rs := [dM []]) (ear_cons (er_lst ear_nil (Nat.zero_le _)) ear_nil) (by show 1 ≤ 100000; decide)) fun y G2 e2 hy => ?_
  refine st_seq (st_forR1 many (fun k σ' G' => ∃ u v y4, σ' = [some (.int (size : Int)), some (.int (many : Int)), some u, some v, y4] ∧ (dM ((Mi.newest size k).map dMN)).p G' u ∧ (dM ((Mi.candidates size k).map dMN)).p G' v) (ea_cons (ev_var rfl) ea_nil) (by omega) ⟨x, y, none, rfl, Rp.mono _ e2 hx, hy⟩
    fun k σ' G' hk e ⟨u, v, y4, es, hu, hv⟩ => ?_) fun σ2 G3 e ⟨u, v, y4, es, hu, hv⟩ => ?_
  · subst es
    have h1 := Mi.newest_len hs k
    have h2 := Mi.newest_len hs (k + 1)
    have h3 := Mi.candidates_len hs k (by omega)
    have p1 : 8 ^ k ≤ 8 ^ 2 := Nat.pow_le_pow_right (by decide) (by omega)
    have p2 : 8 ^ (k + 1) ≤ 8 ^ 2 := Nat.pow_le_pow_right (by decide) (by omega)
    refine ⟨_, tg_name, q_asgR (S := dM ((Mi.newest size (k + 1)).map dMN)) (ca_longer_rows (ear_cons (er_l (er_var rfl hu)) (ear_cons (er_var rfl rfl) ear_nil)) ⟨by omega, hs, fun l hl => by rw [h1.2 l hl]; omega⟩) fun w G4 e4 hw => ?_⟩
    exact st_asg (er_catL (l := Mi.candidates size k) (m := Mi.newest size (k + 1)) (er_var rfl (Rp.mono _ e4 hv)) (er_var rfl hw) (by omega)) fun z G5 e5 hz => ⟨w, z, _, rfl, Rp.mono _ e5 hw, hz⟩
  · subst es
    exact st_ret (er_var rfl hv)
theorem bd_settles_now (T : Txt K mg C) (r : Mi.Ro) (i : Nat) (told : List Nat) {vs : List V} (hv : All2 G [dRo K C r, dN i, dRow K told] vs) (hk : Mi.Ok r ∧ i < r.sensors.length ∧ told.length ≤ 100) : St (t_settles_now K C) (start N_settles_now vs) G noN (dV (.bl (Mi.settlesNow r i told))) := by
  obtain ⟨a, b, c, rfl, hr, rfl, ht⟩ := hv.inv3
  obtain ⟨hk, hi, htl⟩ := hk
  have hp := Mi.prop_lt hk hi
  refine q_asgV (v := .int ((Mi.seAt r i).prop : Int)) (ev_prop T (er_ixD (d := ⟨0, 0, 0, []⟩) (er_sensors T (er_var rfl hr)) (ev_var rfl) hi)) ?_
  refine q_asgR (ca_views_left (ear_cons (er_var rfl hr) (ear_cons (er_var rfl rfl) ear_nil)) ⟨hk, hp⟩) fun y G2 e2 hy => st_ret (er_v ?_)
  have hr2 := Rp.mono _ e2 hr
  exact ca_told_settle (ear_cons (er_l (ca_sensors_of (ear_cons (er_var rfl hr2) (ear_cons (er_var rfl rfl) ear_nil)) hk)) (ear_cons (er_v (ca_place_of (ear_cons (er_var rfl hr2) (ear_cons (er_var rfl rfl) ear_nil)) ⟨hk, hi⟩)) (ear_cons (er_l (er_var rfl hy)) (ear_cons (er_var rfl (Rp.mono _ e2 ht)) (ear_cons (er_v (ev_now T (er_var rfl hr2))) ear_nil)))))
    ⟨Mi.views_ok hk hp, Nat.le_trans (Mi.views_len hk hp) (by decide), htl, Mi.place_lt hi⟩
theorem bd_first_settling (T : Txt K mg C) (r : Mi.Ro) (i : Nat) (n : Nat) {vs : List V} (hv : All2 G [dRo K C r, dN i, dN n] vs) (hk : Mi.Ok r ∧ i < r.sensors.length ∧ n ≤ 2) : St (t_first_settling K C) (start N_first_settling vs) G noN (dMI (Mi.firstSettling r i n)) := by
  obtain ⟨a, b, c, rfl, hr, rfl, rfl⟩ := hv.inv3
  obtain ⟨hk, hi, hn⟩ := hk
  have hp := Mi.prop_lt hk hi
  have hpr := Mi.pr_at hk hp
  have hcl := Mi.candidates_len hpr.2.1 n hn
  refine q_asgV (v := .int ((Mi.seAt r i).prop : Int)) (ev_prop T (er_ixD (d := ⟨0, 0, 0, []⟩) (er_sensors T (er_var rfl hr)) (ev_var rfl) hi)) ?_
  refine q_asgR (ca_sensors_of (ear_cons (er_var rfl hr) (ear_cons (er_var rfl rfl) ear_nil)) hk) fun y G2 e2 hy => ?_
  refine q_asgV (ca_place_of (ear_cons (er_var rfl (Rp.mono _ e2 hr)) (ear_cons (er_var rfl rfl) ear_nil)) ⟨hk, hi⟩) ?_
  refine q_asgR (ca_views_left (ear_cons (er_var rfl (Rp.mono _ e2 hr)) (ear_cons (er_var rfl rfl) ear_nil)) ⟨hk, hp⟩) fun z G3 e3 hz => ?_
  have hr3 := Rp.mono _ (e2.trans e3) hr
  have hy3 := Rp.mono _ e3 hy
  refine st_seq (st_for (Mi.candidates (Mi.prAt r (Mi.seAt r i).prop).size n) dMN (fun k σ' _ => (∃ y7, σ' = [some a, some (.int (i : Int)), some (.int (n : Int)), some (.int ((Mi.seAt r i).prop : Int)), some y, some (.int (Mi.placeOf r i : Nat)), some z, y7]) ∧ ∀ l ∈ (Mi.candidates (Mi.prAt r (Mi.seAt r i).prop).size n).take k, Mi.settlesNow r i l = false)
    (er_l (ca_candidates (ear_cons (er_v (ev_size T (er_ixD (d := ⟨0, []⟩) (er_props T (er_var rfl hr3)) (ev_var rfl) hp))) (ear_cons (er_var rfl rfl) ear_nil)) ⟨hpr.2.1, hn⟩)) (fun _ _ => ⟨⟨none, rfl⟩, fun l h => by simp at h⟩) fun k l v σ' G' hl e hv ⟨⟨y7, es⟩, hall⟩ => ?_) fun σ2 G4 e ⟨⟨y7, es⟩, hall⟩ => ?_
  · subst es
    have hlm := List.mem_of_getElem? hl
    have hll := hcl.2 l hlm
    refine ⟨_, tg_name, st_if (b := Mi.settlesNow r i l) (et_B (ca_told_settle (ear_cons (er_l (er_var rfl (Rp.mono _ e hy3))) (ear_cons (er_var rfl rfl) (ear_cons (er_l (er_var rfl (Rp.mono _ e hz))) (ear_cons (er_var rfl (dM_ls hv)) (ear_cons (er_v (ev_now T (er_var rfl (Rp.mono _ e hr3)))) ear_nil)))))
      ⟨Mi.views_ok hk hp, Nat.le_trans (Mi.views_len hk hp) (by decide), by omega, Mi.place_lt hi⟩)) (fun h => st_ret ?_) fun h => st_next ⟨⟨_, rfl⟩, fun l' hl' => ?_⟩⟩
    · unfold Mi.firstSettling
      rw [Mi.find_at hl hall h]
      exact er_catL (l := [1]) (m := Mi.toInts l) (er_lst (Rs := [dI 1]) (ear_cons (er_v ev_c) ear_nil) (by show 1 ≤ 100000; decide)) (er_ints (er_var rfl hv)) (by unfold Mi.toInts; rw [List.length_map]; show 1 + _ ≤ _; omega)
    · rw [take_succ hl] at hl'
      rcases List.mem_append.mp hl' with q | q
      · exact hall l' q
      · rw [List.mem_singleton.mp q]
        exact h
  · subst es
    rw [List.take_length] at hall
    unfold Mi.firstSettling
    rw [List.find?_eq_none.mpr fun l hl => by rw [hall l hl]; exact Bool.false_ne_true]
    exact st_ret (er_lst (Rs := [dI 0]) (ear_cons (er_v ev_c) ear_nil) (by show 1 ≤ 100000; decide))
theorem bd_place_in_five (T : Txt K mg C) (f : Int) {vs : List V} (hv : All2 G [dI f] vs) (hk : True) : St (t_place_in_five K C) (start N_place_in_five vs) G noN (dV (.int (Mi.placeInFive f))) := by
  obtain ⟨a, rfl, rfl⟩ := hv.inv1
  unfold Mi.placeInFive
  refine q_if (et_test (ev_eq (ev_var rfl) ev_c)) (fun h => st_ret (er_v ?_)) fun h => ?_
  · rw [if_pos (of_decide_eq_true h)]
    exact ev_c
  rw [if_neg (of_decide_eq_false h)]
  refine q_if (et_test (ev_ge (ev_var rfl) ev_c)) (fun h => st_ret (er_v ?_)) fun h => st_ret (er_v ?_)
  · rw [if_pos (of_decide_eq_true h)]
    exact ev_c
  · rw [if_neg (of_decide_eq_false h)]
    exact ev_add (ev_var rfl) ev_c
theorem bd_say_blame (T : Txt K mg C) (r : Mi.Ro) (i : Int) {vs : List V} (hv : All2 G [dRo K C r, dI i] vs) (hk : Mi.Ok r) : St (t_say_blame K C) (start N_say_blame vs) G noN (dMI (Mi.sayBlame r i)) := by
  obtain ⟨a, b, rfl, hr, rfl⟩ := hv.inv2
  unfold Mi.sayBlame
  refine q_if (et_not (et_B (ca_is_sensor (ear_cons (er_var rfl hr) (ear_cons (er_var rfl rfl) ear_nil))))) (fun h => st_ret ?_) fun h => ?_
  · rw [if_pos (nb_t h)]
    exact er_no
  have h1 := nb_f h
  rw [if_neg (by rw [h1]; exact Bool.noConfusion)]
  refine q_if (et_not (et_B (ev_begun T (er_var rfl hr)))) (fun h => st_ret ?_) fun h => ?_
  · rw [if_pos (nb_t h)]
    exact er_no
  rw [if_neg (by rw [nb_f h]; exact Bool.noConfusion)]
  obtain ⟨n, rfl, hn⟩ := Mi.isSensor_nat h1
  rw [Int.toNat_natCast]
  have hp := Mi.prop_lt hk hn
  refine q_asgV (ca_place_of (ear_cons (er_var rfl hr) (ear_cons (er_var rfl rfl) ear_nil)) ⟨hk, hn⟩) ?_
  refine q_asgR (S := dMI ((Mi.leftOf r (Mi.seAt r n).prop).map fun w => Mi.placeInFive (w.1.getD (Mi.placeOf r n) 0))) (er_mapI (er_all (er_lc (Mi.leftOf r (Mi.seAt r n).prop) (dWay K) (fun _ => true) (fun w => dI (Mi.placeInFive (w.1.getD (Mi.placeOf r n) 0))) (Nat.le_trans (Mi.leftOf_len hk hp) (by decide))
    (ca_left_of (ear_cons (er_var rfl hr) (ear_cons (er_v (ev_prop T (er_ixD (d := ⟨0, 0, 0, []⟩) (er_sensors T (er_var rfl hr)) (ev_var rfl) hn))) ear_nil)) ⟨hk, hp⟩) fun w v G2 hw e2 hv => ?_))) fun f G2 e2 hf => st_ret ?_
  · obtain ⟨q, x, y, rfl, hq, hx, hy⟩ := tp_two hv
    exact ⟨_, tg_two rfl hq, rfl, et_yes, fun _ => er_v (ca_place_in_five (ear_cons (er_v (ev_ixD (g := V.int) (d := 0) (er_l (er_var rfl hx)) (ev_var rfl) (by rw [(Mi.left_is hk hp w hw).n]; exact Mi.place_lt hn))) ear_nil))⟩
  · exact er_catL (l := [0]) (er_lst (Rs := [dI 0]) (ear_cons (er_v ev_c) ear_nil) (by show 1 ≤ 100000; decide)) (er_mapI (er_all (er_lcR1 5 (fun _ => true) (fun (k : Nat) => dI (Mi.bit (((Mi.leftOf r (Mi.seAt r n).prop).map fun w => Mi.placeInFive (w.1.getD (Mi.placeOf r n) 0)).contains (k : Int)))) (by decide) (ea_cons ev_c ea_nil) fun k G3 hk3 e3 => ⟨_, tg_name, rfl, et_yes, fun _ =>
      er_v (ev_bit (et_test (ev_to (ev_inR (f := fun i => i) (ev_var rfl) (er_l (er_var rfl (Rp.mono _ e3 hf)))) (any_containsI _ _))))⟩))) (by show 1 + 5 ≤ 1000000; decide)
theorem bd_goes_on (T : Txt K mg C) (ms : List Int) (als : List (List (List Nat))) (rows : List (List Nat)) {vs : List V} (hv : All2 G [dInts K ms, dL K (dRows K) als, dRows K rows] vs) (hk : (∀ al ∈ als, Mi.RowsOk ms al) ∧ rows.length = ms.length) : St (t_goes_on K C) (start N_goes_on vs) G noN (dV (.bl (Mi.goesOn ms als rows))) := by
  obtain ⟨a, b, c, rfl, hm, ha, hr⟩ := hv.inv3
  obtain ⟨hok, hrl⟩ := hk
  unfold Mi.goesOn
  refine st_seq (st_find als (dRows K) (fun al => Mi.hasCourse ms (Mi.overlap al rows)) (er_var rfl ha) fun al w y G' hal e hw => ⟨_, et_B (ca_exists (ear_cons (er_var rfl (Rp.mono _ e hm)) (ear_cons (er_l (ca_overlap (ear_cons (er_var rfl hw) (ear_cons (er_var rfl (Rp.mono _ e hr)) ear_nil)) ⟨by rw [(hok al hal).len, hrl], by rw [(hok al hal).len]; exact (hok al hal).lim, (hok al hal).row⟩)) ear_nil)) (Mi.overlap_ok (hok al hal) hrl)), rfl, fun h => er_v ?_⟩) fun σ2 G2 e ⟨⟨y, es⟩, hall⟩ => st_ret (er_v ?_)
  · rw [any_true (p := fun al => Mi.hasCourse ms (Mi.overlap al rows)) hal h]
    exact ev_c
  · rw [any_none hall]
    exact ev_c
theorem bd_say_since (T : Txt K mg C) (r : Mi.Ro) (i : Int) {vs : List V} (hv : All2 G [dRo K C r, dI i] vs) (hk : Mi.Ok r) : St (t_say_since K C) (start N_say_since vs) G noN (dMI (Mi.saySince r i)) := by
  obtain ⟨a, b, rfl, hr, rfl⟩ := hv.inv2
  unfold Mi.saySince
  refine q_if (et_not (et_B (ca_is_sensor (ear_cons (er_var rfl hr) (ear_cons (er_var rfl rfl) ear_nil))))) (fun h => st_ret ?_) fun h => ?_
  · rw [if_pos (nb_t h)]
    exact er_no
  have h1 := nb_f h
  rw [if_neg (by rw [h1]; exact Bool.noConfusion)]
  refine q_if (et_not (et_B (ev_begun T (er_var rfl hr)))) (fun h => st_ret ?_) fun h => ?_
  · rw [if_pos (nb_t h)]
    exact er_no
  rw [if_neg (by rw [nb_f h]; exact Bool.noConfusion)]
  obtain ⟨n, rfl, hn⟩ := Mi.isSensor_nat h1
  rw [Int.toNat_natCast]
  simp only
  have hp := Mi.prop_lt hk hn
  have hpr := Mi.pr_at hk hp
  have hse := Mi.se_ok hk (Mi.se_mem hn)
  refine q_asgR (er_ixD (f := dSe C) (d := ⟨0, 0, 0, []⟩) (er_sensors T (er_var rfl hr)) (ev_var rfl) hn) fun x G1 e1 hx => ?_
  have hr1 := Rp.mono _ e1 hr
  have hx1 : (dSe C (Mi.seAt r n)).p G1 x := hx
  refine q_asgV (ca_place_of (ear_cons (er_var rfl hr1) (ear_cons (er_var rfl rfl) ear_nil)) ⟨hk, hn⟩) ?_
  refine q_asgR (er_ixD (f := dPr C) (d := ⟨0, []⟩) (er_props T (er_var rfl hr1)) (ev_prop T (er_var rfl hx1)) hp) fun q G2 e2 hq => ?_
  have hq2 : (dPr C (Mi.prAt r (Mi.seAt r n).prop)).p G2 q := hq
  have hr2 := Rp.mono _ e2 hr1
  have hx2 := Rp.mono _ e2 hx1
  refine q_asgR (S := dM ((((Mi.leftOf r (Mi.seAt r n).prop).filter fun w => decide (100 ≤ w.1.getD (Mi.placeOf r n) 0)).map fun w => w.2).map (dRows K))) (by
    rw [List.map_map]
    refine er_lc (Mi.leftOf r (Mi.seAt r n).prop) (dWay K) (fun w => decide (100 ≤ w.1.getD (Mi.placeOf r n) 0)) _ (Nat.le_trans (Mi.leftOf_len hk hp) (by decide)) (ca_left_of (ear_cons (er_var rfl hr2) (ear_cons (er_v (ev_prop T (er_var rfl hx2))) ear_nil)) ⟨hk, hp⟩) fun w v G3 hw e3 hv => ?_
    obtain ⟨s, u1, u2, rfl, hs, hu1, hu2⟩ := tp_two hv
    exact ⟨_, tg_two rfl hs, rfl, et_test (ev_ge (ev_ixD (g := V.int) (d := 0) (er_l (er_var rfl hu1)) (ev_var rfl) (by rw [(Mi.left_is hk hp w hw).n]; exact Mi.place_lt hn)) ev_c), fun _ => er_var rfl hu2⟩) fun al G3 e3 hal => ?_
  have hr3 := Rp.mono _ e3 hr2
  have hx3 := Rp.mono _ e3 hx2
  have hq3 := Rp.mono _ e3 hq2
  have hstl : (Mi.stuckTicks (Mi.seAt r n) r.now).length ≤ 100 := by
    refine Nat.le_trans (List.length_filter_le _ _) ?_
    rw [List.length_map, List.length_range]
    have := hse.hn
    omega
  refine q_build (Rs := [dI 0]) (fun p σ2 G2 ys => (∃ y7 y8, σ2 = [some a, some (.int (n : Int)), some x, some (.int (Mi.placeOf r n : Nat)), some q, some al, some (.ref p), y7, y8, none, none]) ∧ All2 G2 ((0 :: Mi.toInts ((Mi.stuckTicks (Mi.seAt r n) r.now).filter fun t => Mi.goesOn (Mi.prAt r (Mi.seAt r n).prop).moves (((Mi.leftOf r (Mi.seAt r n).prop).filter fun w => decide (100 ≤ w.1.getD (Mi.placeOf r n) 0)).map fun w => w.2) (Mi.sight (Mi.seAt r n) (100 + (t : Int)) (Mi.prAt r (Mi.seAt r n).prop).size r.now))).map dI) ys)
    (ear_cons (er_v ev_c) ear_nil) (by show 1 ≤ 100000; decide) (fun p xs0 G4 e4 h0 => ?_) (fun p σ2 G4 ys e4 hp2 hn => ?_)
  · refine StB.to (sb_for (Mi.stuckTicks (Mi.seAt r n) r.now) dN (fun k σ' G' ys => (∃ y7 y8, σ' = [some a, some (.int (n : Int)), some x, some (.int (Mi.placeOf r n : Nat)), some q, some al, some (.ref p), y7, y8, none, none]) ∧ All2 G' ((0 :: Mi.toInts (((Mi.stuckTicks (Mi.seAt r n) r.now).take k).filter fun t => Mi.goesOn (Mi.prAt r (Mi.seAt r n).prop).moves (((Mi.leftOf r (Mi.seAt r n).prop).filter fun w => decide (100 ≤ w.1.getD (Mi.placeOf r n) 0)).map fun w => w.2) (Mi.sight (Mi.seAt r n) (100 + (t : Int)) (Mi.prAt r (Mi.seAt r n).prop).size r.now))).map dI) ys ∧ ys.length ≤ 1 + k)
      (er_l (ca_stuck_ticks (ear_cons (er_var rfl (Rp.mono _ e4 hx3)) (ear_cons (er_v (ev_now T (er_var rfl (Rp.mono _ e4 hr3)))) ear_nil)) hse)) (fun G5 e5 => ⟨⟨none, none, rfl⟩, h0.mono e5, by rw [h0.length]; exact Nat.le_refl _⟩) fun k t v σ' G' ys hkt e5 hv ⟨⟨y7, y8, es⟩, hys, hyl⟩ => ?_) fun σ2 G2 ys _ ⟨q1, q2, _⟩ => ⟨q1, by rw [List.take_length] at q2; exact q2⟩
    subst es
    obtain rfl : v = .int (t : Int) := hv
    have e45 := e4.trans e5
    have hkl : k < (Mi.stuckTicks (Mi.seAt r n) r.now).length := (List.getElem?_eq_some_iff.mp hkt).1
    have e6 : ∀ (P : Nat → Bool) (b : Bool), P t = b → (0 :: Mi.toInts (((Mi.stuckTicks (Mi.seAt r n) r.now).take (k + 1)).filter P)) = (0 :: Mi.toInts (((Mi.stuckTicks (Mi.seAt r n) r.now).take k).filter P)) ++ if b then [(t : Int)] else [] := fun P b hb => by
      rw [take_succ hkt, List.filter_append, List.filter_cons, hb]
      unfold Mi.toInts
      rw [List.map_append]
      cases b <;> rfl
    refine ⟨_, tg_name, sb_asgR (ca_sight (ear_cons (er_var rfl (Rp.mono _ e45 hx3)) (ear_cons (er_v (ev_add ev_c (ev_var rfl))) (ear_cons (er_v (ev_size T (er_var rfl (Rp.mono _ e45 hq3)))) (ear_cons (er_v (ev_now T (er_var rfl (Rp.mono _ e45 hr3)))) ear_nil)))) ⟨hse, by omega, hpr.2.1⟩) fun rw' G6 e7 hrw => ?_⟩
    have e47 := e45.trans e7
    refine sb_if (et_B (ca_goes_on (ear_cons (er_ls (er_moves T (er_var rfl (Rp.mono _ e47 hq3)))) (ear_cons (er_l (er_var rfl (Rp.mono _ e47 hal))) (ear_cons (er_l (er_var rfl hrw)) ear_nil))) ⟨fun al hal => ?_, by rw [Mi.sight_len, hpr.2.2]⟩)) (fun h => ?_) fun h => ?_
    · obtain ⟨w, hw, rfl⟩ := List.mem_map.mp hal
      exact Mi.rowsOk_of hk hp (Mi.left_is hk hp w (List.mem_filter.mp hw).1)
    · refine sb_app rfl (er_v (ev_var rfl)) (by omega) fun u G7 e8 hu => ⟨⟨_, _, rfl⟩, ?_, by rw [List.length_append]; show _ + 1 ≤ _; omega⟩
      rw [e6 _ true h, if_pos rfl, List.map_append]
      exact (hys.mono (e7.trans e8)).append (.one hu)
    · refine sb_next ⟨⟨_, _, rfl⟩, ?_, by omega⟩
      rw [e6 _ false h, if_neg Bool.false_ne_true, List.append_nil]
      exact hys.mono e7
  · obtain ⟨⟨y7, y8, rfl⟩, hys⟩ := hn
    exact st_ret (er_var rfl ⟨p, ys, rfl, upd_same, hys.mono (Ex.new hp2)⟩)
theorem bd_never_fine (T : Txt K mg C) (r : Mi.Ro) (t : List (List Mi.Way)) (i : Nat) {vs : List V} (hv : All2 G [dRo K C r, dL K (dWays K) t, dN i] vs) (hk : Mi.Ok r ∧ i < r.sensors.length ∧ t = Mi.allLeft r) : St (t_never_fine K C) (start N_never_fine vs) G noN (dV (.bl (Mi.neverFine r t i))) := by
  obtain ⟨a, b, c, rfl, hr, ht, rfl⟩ := hv.inv3
  obtain ⟨hk, hi, rfl⟩ := hk
  have hp := Mi.prop_lt hk hi
  unfold Mi.neverFine
  refine q_asgV (ca_place_of (ear_cons (er_var rfl hr) (ear_cons (er_var rfl rfl) ear_nil)) ⟨hk, hi⟩) ?_
  refine st_seq (st_find2 ((Mi.allLeft r).getD (Mi.seAt r i).prop []) (fun w => dMI w.1) (fun w => dRows K w.2) (fun w => decide (w.1.getD (Mi.placeOf r i) 0 = 0)) (er_ixD (f := dWays K) (d := []) (er_var rfl ht) (ev_prop T (er_ixD (d := ⟨0, 0, 0, []⟩) (er_sensors T (er_var rfl hr)) (ev_var rfl) hi)) (by rw [Mi.left_len]; exact hp))
    (fun w x y z1 z2 G' hw e hx hy => ⟨_, et_test (ev_eq (ev_ixD (g := V.int) (d := 0) (er_l (er_var rfl hx)) (ev_var rfl) (by rw [(Mi.left_is hk hp w hw).n]; exact Mi.place_lt hi)) ev_c), rfl, fun h => er_v ?_⟩) (by decide)) fun σ2 G2 e ⟨⟨z1, z2, es⟩, hall⟩ => st_ret (er_v ?_)
  · rw [all_false (p := fun w : Mi.Way => !decide (w.1.getD (Mi.placeOf r i) 0 = 0)) hw (by rw [h]; rfl)]
    exact ev_c
  · rw [List.all_eq_true.mpr fun w hw => by rw [hall w hw]; rfl]
    exact ev_c
theorem bd_say_sure (T : Txt K mg C) (r : Mi.Ro) {vs : List V} (hv : All2 G [dRo K C r] vs) (hk : Mi.Ok r) : St (t_say_sure K C) (start N_say_sure vs) G noN (dMI (Mi.saySure r)) := by
  obtain ⟨a, rfl, hr⟩ := hv.inv1
  have h8 := hk.ns
  unfold Mi.saySure
  refine q_if (et_not (et_B (ev_begun T (er_var rfl hr)))) (fun h => st_ret ?_) fun h => ?_
  · rw [if_pos (nb_t h)]
    exact er_no
  rw [if_neg (by rw [nb_f h]; exact Bool.noConfusion)]
  refine q_if (et_not (et_B (ca_can_be (ear_cons (er_var rfl hr) ear_nil) hk))) (fun h => st_ret ?_) fun h => ?_
  · rw [if_pos (nb_t h)]
    exact er_no
  rw [if_neg (by rw [nb_f h]; exact Bool.noConfusion)]
  refine q_asgR (ca_all_left (ear_cons (er_var rfl hr) ear_nil) hk) fun t G1 e1 ht => st_ret ?_
  have hr1 := Rp.mono _ e1 hr
  refine er_catL (l := [0]) (er_lst (Rs := [dI 0]) (ear_cons (er_v ev_c) ear_nil) (by show 1 ≤ 100000; decide)) (er_ints (er_lcR1 r.sensors.length (Mi.neverFine r (Mi.allLeft r)) dN (by omega) (ea_cons (ev_lenL (er_sensors T (er_var rfl hr1))) ea_nil)
    fun k G2 hk2 e2 => ⟨_, tg_name, rfl, et_B (ca_never_fine (ear_cons (er_var rfl (Rp.mono _ e2 hr1)) (ear_cons (er_l (er_var rfl (Rp.mono _ e2 ht))) (ear_cons (er_var rfl rfl) ear_nil))) ⟨hk, hk2, rfl⟩), fun _ => er_var rfl rfl⟩)) ?_
  rw [List.length_map]
  have h5 := List.length_filter_le (Mi.neverFine r (Mi.allLeft r)) (List.range r.sensors.length)
  rw [List.length_range] at h5
  show 1 + (List.filter _ _).length ≤ 1000000
  omega
theorem bd_say_settle (T : Txt K mg C) (r : Mi.Ro) (i : Int) (n : Int) {vs : List V} (hv : All2 G [dRo K C r, dI i, dI n] vs) (hk : Mi.Ok r) : St (t_say_settle K C) (start N_say_settle vs) G noN (dMI (Mi.saySettle r i n)) := by
  obtain ⟨a, b, c, rfl, hr, rfl, rfl⟩ := hv.inv3
  unfold Mi.saySettle
  refine q_if (et_or (et_not (et_B (ca_is_sensor (ear_cons (er_var rfl hr) (ear_cons (er_var rfl rfl) ear_nil))))) fun _ => et_not (et_test (ev_chain ev_c (ev_var rfl) ev_c))) (fun h => st_ret ?_) fun h => ?_
  · rw [if_pos (fun ⟨q1, q2⟩ => by
      rw [q1, decide_eq_true q2.1, decide_eq_true q2.2] at h
      cases h)]
    exact er_no
  rw [Bool.or_eq_false_iff] at h
  have h1 := nb_f h.1
  have h2 := nb_f h.2
  rw [Bool.and_eq_true] at h2
  have h3 := of_decide_eq_true h2.1
  have h4 := of_decide_eq_true h2.2
  rw [if_neg (fun q => q ⟨h1, h3, h4⟩)]
  refine q_if (et_not (et_B (ev_begun T (er_var rfl hr)))) (fun h => st_ret ?_) fun h => st_ret ?_
  · rw [if_pos (nb_t h)]
    exact er_no
  rw [if_neg (by rw [nb_f h]; exact Bool.noConfusion)]
  obtain ⟨k, rfl, hk2⟩ := Mi.isSensor_nat h1
  obtain ⟨m, rfl⟩ : ∃ m : Nat, n = (m : Int) := ⟨n.toNat, by omega⟩
  rw [Int.toNat_natCast, Int.toNat_natCast]
  exact er_catL (l := [0]) (er_lst (Rs := [dI 0]) (ear_cons (er_v ev_c) ear_nil) (by show 1 ≤ 100000; decide)) (ca_first_settling (ear_cons (er_var rfl hr) (ear_cons (er_var rfl rfl) (ear_cons (er_var rfl rfl) ear_nil))) ⟨hk, hk2, by omega⟩) (by
    have := Mi.firstSettling_len hk hk2 (show m ≤ 2 by omega)
    show 1 + (Mi.firstSettling r k m).length ≤ 1000000
    omega)
theorem bd_told_are_right (T : Txt K mg C) (r : Mi.Ro) (i : Nat) (told : List Int) {vs : List V} (hv : All2 G [dRo K C r, dN i, dInts K told] vs) (hk : Mi.Ok r ∧ i < r.sensors.length) : St (t_told_are_right K C) (start N_told_are_right vs) G noN (dV (.bl (Mi.toldRight r i told))) := by
  obtain ⟨a, b, c, rfl, hr, rfl, ht⟩ := hv.inv3
  obtain ⟨hk, hi⟩ := hk
  have hp := Mi.prop_lt hk hi
  unfold Mi.toldRight
  refine q_asgV (v := .int ((Mi.prAt r (Mi.seAt r i).prop).size : Int)) (ev_size T (er_ixD (d := ⟨0, []⟩) (er_props T (er_var rfl hr)) (ev_prop T (er_ixD (d := ⟨0, 0, 0, []⟩) (er_sensors T (er_var rfl hr)) (ev_var rfl) hi)) (by exact hp))) ?_
  refine q_if (et_test (ev_gt (ev_lenL (er_var rfl ht)) ev_c)) (fun h => st_ret (er_v ?_)) fun h => ?_
  · rw [decide_eq_false (by have := of_decide_eq_true h; omega), Bool.false_and]
    exact ev_c
  rw [decide_eq_true (by have := of_decide_eq_false h; omega), Bool.true_and]
  refine st_seq (st_find told dI (fun n => !(decide (0 ≤ n) && decide (n < ((Mi.prAt r (Mi.seAt r i).prop).size : Int)))) (er_var rfl ht) fun n w y G' hn e hw => ⟨_, et_not (et_test (ev_chain ev_c (ev_r (er_var rfl hw)) (ev_var rfl))), rfl, fun h => er_v ?_⟩) fun σ2 G2 e ⟨⟨y, es⟩, hall⟩ => st_ret (er_v ?_)
  · rw [all_false (p := fun n => decide (0 ≤ n) && decide (n < ((Mi.prAt r (Mi.seAt r i).prop).size : Int))) hn (nb_t h)]
    exact ev_c
  · rw [List.all_eq_true.mpr fun p hp => nb_f (hall p hp)]
    exact ev_c
theorem bd_say_settles (T : Txt K mg C) (r : Mi.Ro) (i : Int) (told : List Int) {vs : List V} (hv : All2 G [dRo K C r, dI i, dInts K told] vs) (hk : Mi.Ok r) : St (t_say_settles K C) (start N_say_settles vs) G noN (dMI (Mi.saySettles r i told)) := by
  obtain ⟨a, b, c, rfl, hr, rfl, ht⟩ := hv.inv3
  unfold Mi.saySettles
  by_cases hs : Mi.isSensor r i = true
  · obtain ⟨n, rfl, hn⟩ := Mi.isSensor_nat hs
    rw [Int.toNat_natCast]
    refine q_if (et_or (et_not (et_B (ca_is_sensor (ear_cons (er_var rfl hr) (ear_cons (er_var rfl rfl) ear_nil))))) fun _ => et_not (et_B (ca_told_are_right (ear_cons (er_var rfl hr) (ear_cons (er_var rfl rfl) (ear_cons (er_var rfl ht) ear_nil))) ⟨hk, hn⟩))) (fun h => st_ret ?_) fun h => ?_
    · rw [if_pos (fun ⟨q1, q2⟩ => by
        rw [q1, q2] at h
        cases h)]
      exact er_no
    rw [Bool.or_eq_false_iff] at h
    have h2 := nb_f h.2
    rw [if_neg (fun q => q ⟨hs, h2⟩)]
    refine q_if (et_not (et_B (ev_begun T (er_var rfl hr)))) (fun h => st_ret ?_) fun h => st_ret ?_
    · rw [if_pos (nb_t h)]
      exact er_no
    rw [if_neg (by rw [nb_f h]; exact Bool.noConfusion)]
    unfold Mi.toldRight at h2
    rw [Bool.and_eq_true] at h2
    have h3 := of_decide_eq_true h2.1
    have ht' : (dRow K (told.map Int.toNat)).p G c := by
      obtain ⟨q, xs, ev, hq, hx⟩ := ht
      exact ⟨q, xs, ev, hq, by
        rw [← ints_nat fun n hn => by
          have q := List.all_eq_true.mp h2.2 n hn
          rw [Bool.and_eq_true] at q
          exact of_decide_eq_true q.1]
        exact hx⟩
    exact er_lst (Rs := [dI 0, dI _]) (ear_cons (er_v ev_c) (ear_cons (er_v (ev_bit (et_B (ca_settles_now (ear_cons (er_var rfl hr) (ear_cons (er_var rfl rfl) (ear_cons (er_var rfl ht') ear_nil))) ⟨hk, hn, by rw [List.length_map]; omega⟩)))) ear_nil)) (by show 2 ≤ 100000; decide)
  · refine q_if (b := true) (et_to (et_or (b := false) (et_not (et_B (ca_is_sensor (ear_cons (er_var rfl hr) (ear_cons (er_var rfl rfl) ear_nil))))) fun q => (hs (nb_f q)).elim) (by
      cases q : Mi.isSensor r i with
      | true => exact (hs q).elim
      | false => rfl)) (fun h => st_ret ?_) fun h => by cases h
    rw [if_pos (fun q => hs q.1)]
    exact er_no
theorem bd_say_reads (T : Txt K mg C) (r : Mi.Ro) (i : Int) {vs : List V} (hv : All2 G [dRo K C r, dI i] vs) (hk : Mi.Ok r) : St (t_say_reads K C) (start N_say_reads vs) G noN (dMI (Mi.sayReads r i)) := by
  obtain ⟨a, b, rfl, hr, rfl⟩ := hv.inv2
  unfold Mi.sayReads
  refine q_if (et_not (et_B (ca_is_sensor (ear_cons (er_var rfl hr) (ear_cons (er_var rfl rfl) ear_nil))))) (fun h => st_ret ?_) fun h => ?_
  · rw [if_pos (nb_t h)]
    exact er_no
  have h1 := nb_f h
  rw [if_neg (by rw [h1]; exact Bool.noConfusion)]
  refine q_if (et_not (et_B (ev_begun T (er_var rfl hr)))) (fun h => st_ret ?_) fun h => ?_
  · rw [if_pos (nb_t h)]
    exact er_no
  rw [if_neg (by rw [nb_f h]; exact Bool.noConfusion)]
  obtain ⟨n, rfl, hn⟩ := Mi.isSensor_nat h1
  rw [Int.toNat_natCast]
  have hse := Mi.se_ok hk (Mi.se_mem hn)
  refine q_asgR (er_ixD (f := dSe C) (d := ⟨0, 0, 0, []⟩) (er_sensors T (er_var rfl hr)) (ev_var rfl) hn) fun x G1 e1 hx => st_ret ?_
  have hx1 : (dSe C (Mi.seAt r n)).p G1 x := hx
  refine er_catL (l := [0, ((Mi.seAt r n).first : Int)]) (er_lst (Rs := [dI 0, dI _]) (ear_cons (er_v ev_c) (ear_cons (er_v (ev_first T (er_var rfl hx1))) ear_nil)) (by show 2 ≤ 100000; decide)) (er_fromL (er_l (er_readings T (er_var rfl hx1))) (ev_first T (er_var rfl hx1))) ?_
  have h2 := hse.hl
  have h3 := hse.hn
  show 2 + ((Mi.seAt r n).readings.drop _).length ≤ 1000000
  rw [List.length_drop]
  omega
end
end Sk
/-! part W12 -/
namespace Sk
open PySem PySem.Spec PyProof.Rows L2 Evl

/-! ### the room as it lies: a its instance, dx its dict, pl and sl its lists; of each prop and sensor the instance and its list -/
structure RoomL (C : Cs) (G : Hp) (a : Addr) (r : Mi.Ro) (dx pl sl : Addr) (ps ss : List (Addr × Addr)) : Prop where
  ro : G a = some (.ins C.R dx (roF r pl sl))
  gp : G pl = some (.lst (ps.map fun x => V.ref x.1))
  gs : G sl = some (.lst (ss.map fun x => V.ref x.1))
  np : ps.length = r.props.length
  ns : ss.length = r.sensors.length
  pr : ∀ (i : Nat) (q : Mi.Pr) (x : Addr × Addr), r.props[i]? = some q → ps[i]? = some x → (∃ d, G x.1 = some (.ins C.P d (prF q x.2))) ∧ G x.2 = some (.lst (q.moves.map V.int))
  se : ∀ (i : Nat) (s : Mi.Se) (x : Addr × Addr), r.sensors[i]? = some s → ss[i]? = some x → (∃ d, G x.1 = some (.ins C.S d (seF s x.2))) ∧ G x.2 = some (.lst (s.readings.map V.int))
  lp : pl ≠ sl
  l1 : ∀ (i : Nat) (x : Addr × Addr), ps[i]? = some x → x.2 ≠ pl ∧ x.2 ≠ sl
  l2 : ∀ (i : Nat) (x : Addr × Addr), ss[i]? = some x → x.2 ≠ pl ∧ x.2 ≠ sl
  np2 : ∀ (i j : Nat) (x y : Addr × Addr), ps[i]? = some x → ps[j]? = some y → x.2 = y.2 → i = j
  ns2 : ∀ (i j : Nat) (x y : Addr × Addr), ss[i]? = some x → ss[j]? = some y → x.2 = y.2 → i = j
  nps : ∀ (i j : Nat) (x y : Addr × Addr), ps[i]? = some x → ss[j]? = some y → x.2 ≠ y.2
  ns1 : ∀ (i j : Nat) (x y : Addr × Addr), ss[i]? = some x → ss[j]? = some y → x.1 = y.1 → i = j
structure RoomAt (C : Cs) (G : Hp) (a : Addr) (r : Mi.Ro) : Prop where
  ex : ∃ dx pl sl ps ss, RoomL C G a r dx pl sl ps ss
theorem all2_ix {α : Type} {G : Hp} {f : α → Rp} {g : Addr × Addr → V} : ∀ {l : List α} {m : List (Addr × Addr)}, m.length = l.length → (∀ (i : Nat) (a : α) (x : Addr × Addr), l[i]? = some a → m[i]? = some x → (f a).p G (g x)) → All2 G (l.map f) (m.map g)
  | [], [], _, _ => .nil
  | [], _ :: _, h, _ => by cases h
  | _ :: _, [], h, _ => by cases h
  | a :: l, x :: m, h, q => .cons (q 0 a x rfl rfl) (all2_ix (by simpa using h) fun i b y h1 h2 => q (i + 1) b y (by simpa using h1) (by simpa using h2))
theorem RoomL.rep {K : PySem.W.Frag} {C : Cs} {G : Hp} {a : Addr} {r : Mi.Ro} {dx pl sl : Addr} {ps ss : List (Addr × Addr)} (h : RoomL C G a r dx pl sl ps ss) : (dRo K C r).p G (.ref a) :=
  ⟨a, dx, pl, sl, rfl, h.ro, ⟨pl, _, rfl, sq_of h.gp, all2_ix h.np fun i q x h1 h2 => by
    obtain ⟨⟨d, q1⟩, q2⟩ := h.pr i q x h1 h2
    exact ⟨x.1, d, x.2, rfl, q1, x.2, _, rfl, q2, All2.ofVals _ _⟩⟩, ⟨sl, _, rfl, sq_of h.gs, all2_ix h.ns fun i s x h1 h2 => by
    obtain ⟨⟨d, q1⟩, q2⟩ := h.se i s x h1 h2
    exact ⟨x.1, d, x.2, rfl, q1, x.2, _, rfl, q2, All2.ofVals _ _⟩⟩⟩
theorem RoomAt.rep {K : PySem.W.Frag} {C : Cs} {G : Hp} {a : Addr} {r : Mi.Ro} (h : RoomAt C G a r) : (dRo K C r).p G (.ref a) := by
  obtain ⟨dx, pl, sl, ps, ss, h⟩ := h.ex
  exact h.rep
theorem get_of {α : Type} {l : List α} {n i : Nat} {x : α} (h : l[i]? = some x) (hl : l.length = n) : i < n := by
  have := (List.getElem?_eq_some_iff.mp h).1
  omega
theorem get_ex {α : Type} {l : List α} {i : Nat} (h : i < l.length) : ∃ x, l[i]? = some x := ⟨l[i], List.getElem?_eq_getElem h⟩
section
variable {C : Cs} {G G2 : Hp} {a : Addr} {r r' : Mi.Ro} {dx pl sl : Addr} {ps ss : List (Addr × Addr)}
theorem ins_len {C1 d1 C2 d2 : Addr} {f1 f2 : List (Str × V)} (h : f1.length ≠ f2.length) : HO.ins C1 d1 f1 ≠ HO.ins C2 d2 f2 := fun e => by
  injection e with _ _ e3
  exact h (by rw [e3])
theorem lst_ins {C1 d1 : Addr} {f1 : List (Str × V)} {xs : List V} : HO.lst xs ≠ HO.ins C1 d1 f1 := fun e => by cases e
/-- addresses of the room's own objects -/
theorem RoomL.pa (h : RoomL C G a r dx pl sl ps ss) {i : Nat} {x : Addr × Addr} (hx : ps[i]? = some x) : x.1 ≠ a ∧ x.2 ≠ a ∧ x.1 ≠ pl ∧ x.1 ≠ sl ∧ (∃ d q, G x.1 = some (.ins C.P d (prF q x.2))) ∧ ∃ ms, G x.2 = some (.lst ms) := by
  obtain ⟨q, hq⟩ := get_ex (l := r.props) (get_of hx h.np)
  obtain ⟨⟨d, h1⟩, h2⟩ := h.pr i q x hq hx
  exact ⟨ne_of h1 h.ro (ins_len (by show 2 ≠ 5; decide)), ne_of h2 h.ro lst_ins, ne_of h1 h.gp (fun e => lst_ins e.symm), ne_of h1 h.gs (fun e => lst_ins e.symm), ⟨d, q, h1⟩, _, h2⟩
theorem RoomL.sa (h : RoomL C G a r dx pl sl ps ss) {i : Nat} {x : Addr × Addr} (hx : ss[i]? = some x) : x.1 ≠ a ∧ x.2 ≠ a ∧ x.1 ≠ pl ∧ x.1 ≠ sl ∧ (∃ d q, G x.1 = some (.ins C.S d (seF q x.2))) ∧ ∃ ms, G x.2 = some (.lst ms) := by
  obtain ⟨q, hq⟩ := get_ex (l := r.sensors) (get_of hx h.ns)
  obtain ⟨⟨d, h1⟩, h2⟩ := h.se i q x hq hx
  exact ⟨ne_of h1 h.ro (ins_len (by show 4 ≠ 5; decide)), ne_of h2 h.ro lst_ins, ne_of h1 h.gp (fun e => lst_ins e.symm), ne_of h1 h.gs (fun e => lst_ins e.symm), ⟨d, q, h1⟩, _, h2⟩
theorem RoomL.pla (h : RoomL C G a r dx pl sl ps ss) : pl ≠ a := ne_of h.gp h.ro lst_ins
theorem RoomL.sla (h : RoomL C G a r dx pl sl ps ss) : sl ≠ a := ne_of h.gs h.ro lst_ins
/-- a number or a truth of the room changes -/
theorem RoomL.num (h : RoomL C G a r dx pl sl ps ss) (hp : r'.props = r.props) (hs : r'.sensors = r.sensors) : RoomL C (upd G a (.ins C.R dx (roF r' pl sl))) a r' dx pl sl ps ss where
  ro := upd_same
  gp := by rw [upd_ne h.pla]; exact h.gp
  gs := by rw [upd_ne h.sla]; exact h.gs
  np := by rw [hp]; exact h.np
  ns := by rw [hs]; exact h.ns
  pr := fun i q x h1 h2 => by
    rw [hp] at h1
    obtain ⟨n1, n2, _⟩ := h.pa h2
    obtain ⟨⟨d, q1⟩, q2⟩ := h.pr i q x h1 h2
    exact ⟨⟨d, by rw [upd_ne n1]; exact q1⟩, by rw [upd_ne n2]; exact q2⟩
  se := fun i q x h1 h2 => by
    rw [hs] at h1
    obtain ⟨n1, n2, _⟩ := h.sa h2
    obtain ⟨⟨d, q1⟩, q2⟩ := h.se i q x h1 h2
    exact ⟨⟨d, by rw [upd_ne n1]; exact q1⟩, by rw [upd_ne n2]; exact q2⟩
  lp := h.lp
  l1 := h.l1
  l2 := h.l2
  np2 := h.np2
  ns2 := h.ns2
  nps := h.nps
  ns1 := h.ns1
/-- a prop's list of moves grows -/
theorem RoomL.move (h : RoomL C G a r dx pl sl ps ss) {i : Nat} {q : Mi.Pr} {x : Addr × Addr} (hq : r.props[i]? = some q) (hx : ps[i]? = some x) (m : Int) :
    RoomL C (upd G x.2 (.lst ((q.moves ++ [m]).map V.int))) a { r with props := r.props.set i { q with moves := q.moves ++ [m] } } dx pl sl ps ss := by
  obtain ⟨n1, n2, n3, n4, _⟩ := h.pa hx
  obtain ⟨⟨d0, g1⟩, g2⟩ := h.pr i q x hq hx
  have hil := get_of hq rfl
  refine ⟨by rw [upd_ne n2.symm]; exact h.ro, by rw [upd_ne (h.l1 i x hx).1.symm]; exact h.gp, by rw [upd_ne (h.l1 i x hx).2.symm]; exact h.gs, by rw [List.length_set]; exact h.np, h.ns, fun j p y h1 h2 => ?_, fun j s y h1 h2 => ?_, h.lp, h.l1, h.l2, h.np2, h.ns2, h.nps, h.ns1⟩
  · by_cases hj : i = j
    · subst hj
      rw [List.getElem?_set_self hil] at h1
      rw [hx] at h2
      cases h1
      cases h2
      exact ⟨⟨d0, by rw [upd_ne (ne_of g1 g2 fun e => lst_ins e.symm)]; exact g1⟩, upd_same⟩
    · have h1' : r.props[j]? = some p := by rw [← h1, List.getElem?_set_ne hj]
      obtain ⟨⟨d, q1⟩, q2⟩ := h.pr j p y h1' h2
      exact ⟨⟨d, by rw [upd_ne (ne_of q1 g2 fun e => lst_ins e.symm)]; exact q1⟩, by rw [upd_ne fun e => hj (h.np2 i j x y hx h2 e.symm)]; exact q2⟩
  · obtain ⟨⟨d, q1⟩, q2⟩ := h.se j s y h1 h2
    exact ⟨⟨d, by rw [upd_ne (ne_of q1 g2 fun e => lst_ins e.symm)]; exact q1⟩, by rw [upd_ne fun e => h.nps i j x y hx h2 e.symm]; exact q2⟩
/-- a sensor's list of readings grows -/
theorem RoomL.read (h : RoomL C G a r dx pl sl ps ss) {i : Nat} {q : Mi.Se} {x : Addr × Addr} (hq : r.sensors[i]? = some q) (hx : ss[i]? = some x) (m : Int) :
    RoomL C (upd G x.2 (.lst ((q.readings ++ [m]).map V.int))) a { r with sensors := r.sensors.set i { q with readings := q.readings ++ [m] } } dx pl sl ps ss := by
  obtain ⟨n1, n2, n3, n4, _⟩ := h.sa hx
  obtain ⟨⟨d0, g1⟩, g2⟩ := h.se i q x hq hx
  have hil := get_of hq rfl
  refine ⟨by rw [upd_ne n2.symm]; exact h.ro, by rw [upd_ne (h.l2 i x hx).1.symm]; exact h.gp, by rw [upd_ne (h.l2 i x hx).2.symm]; exact h.gs, h.np, by rw [List.length_set]; exact h.ns, fun j p y h1 h2 => ?_, fun j s y h1 h2 => ?_, h.lp, h.l1, h.l2, h.np2, h.ns2, h.nps, h.ns1⟩
  · obtain ⟨⟨d, q1⟩, q2⟩ := h.pr j p y h1 h2
    exact ⟨⟨d, by rw [upd_ne (ne_of q1 g2 fun e => lst_ins e.symm)]; exact q1⟩, by rw [upd_ne fun e => h.nps j i y x h2 hx e]; exact q2⟩
  · by_cases hj : i = j
    · subst hj
      rw [List.getElem?_set_self hil] at h1
      rw [hx] at h2
      cases h1
      cases h2
      exact ⟨⟨d0, by rw [upd_ne (ne_of g1 g2 fun e => lst_ins e.symm)]; exact g1⟩, upd_same⟩
    · have h1' : r.sensors[j]? = some s := by rw [← h1, List.getElem?_set_ne hj]
      obtain ⟨⟨d, q1⟩, q2⟩ := h.se j s y h1' h2
      exact ⟨⟨d, by rw [upd_ne (ne_of q1 g2 fun e => lst_ins e.symm)]; exact q1⟩, by rw [upd_ne fun e => hj (h.ns2 i j x y hx h2 e.symm)]; exact q2⟩
/-- a sensor's numbers change, its list is a new one -/
theorem RoomL.mend (h : RoomL C G a r dx pl sl ps ss) {i : Nat} {q q' : Mi.Se} {x : Addr × Addr} {d rl : Addr} (hq : r.sensors[i]? = some q) (hx : ss[i]? = some x) (hn : G rl = none) :
    RoomL C (upd (upd G rl (.lst (q'.readings.map V.int))) x.1 (.ins C.S d (seF q' rl))) a { r with sensors := r.sensors.set i q' } dx pl sl ps (ss.set i (x.1, rl)) := by
  obtain ⟨n1, n2, n3, n4, ⟨d1, q1, g1⟩, ms, g2⟩ := h.sa hx
  have hil := get_of hq rfl
  have hil2 := get_of hx rfl
  have nx : x.1 ≠ rl := ne_of_none g1 hn
  have other : ∀ {c : Addr} {o : HO}, G c = some o → c ≠ x.1 → (upd (upd G rl (.lst (q'.readings.map V.int))) x.1 (.ins C.S d (seF q' rl))) c = some o := fun {c o} hc hne => by
    rw [upd_ne hne, upd_ne (ne_of_none hc hn)]
    exact hc
  have gets : ∀ {j : Nat} {y : Addr × Addr}, (ss.set i (x.1, rl))[j]? = some y → (j = i ∧ y = (x.1, rl)) ∨ (i ≠ j ∧ ss[j]? = some y) := fun {j y} hy => by
    by_cases hj : i = j
    · subst hj
      rw [List.getElem?_set_self hil2] at hy
      exact .inl ⟨rfl, (Option.some.inj hy).symm⟩
    · rw [List.getElem?_set_ne hj] at hy
      exact .inr ⟨hj, hy⟩
  have rlp : ∀ {j : Nat} {y : Addr × Addr}, ps[j]? = some y → y.2 ≠ rl := fun {j y} hy => by
    obtain ⟨_, _, _, _, _, ms, e⟩ := h.pa hy
    exact ne_of_none e hn
  have rls : ∀ {j : Nat} {y : Addr × Addr}, ss[j]? = some y → y.2 ≠ rl := fun {j y} hy => by
    obtain ⟨_, _, _, _, _, ms, e⟩ := h.sa hy
    exact ne_of_none e hn
  refine ⟨other h.ro n1.symm, other h.gp n3.symm, ?_, h.np, by rw [List.length_set, List.length_set]; exact h.ns, fun j p y h1 h2 => ?_, fun j s y h1 h2 => ?_, h.lp, h.l1, fun j y hy => ?_, h.np2, fun j k y z hy hz e => ?_, fun j k y z hy hz => ?_, fun j k y z hy hz e => ?_⟩
  · rw [other h.gs n4.symm]
    congr 2
    refine List.ext_getElem? fun j => ?_
    rw [List.getElem?_map, List.getElem?_map]
    by_cases hj : i = j
    · subst hj
      rw [List.getElem?_set_self hil2, hx]
      rfl
    · rw [List.getElem?_set_ne hj]
  · obtain ⟨⟨d2, q1'⟩, q2⟩ := h.pr j p y h1 h2
    exact ⟨⟨d2, other q1' (ne_of q1' g1 (ins_len (by show 2 ≠ 4; decide)))⟩, other q2 (ne_of q2 g1 lst_ins)⟩
  · rcases gets h2 with ⟨rfl, rfl⟩ | ⟨hj, h2⟩
    · rw [List.getElem?_set_self hil] at h1
      cases h1
      exact ⟨⟨d, upd_same⟩, by rw [upd_ne nx.symm]; exact upd_same⟩
    · rw [List.getElem?_set_ne hj] at h1
      obtain ⟨⟨d2, q1'⟩, q2⟩ := h.se j s y h1 h2
      exact ⟨⟨d2, other q1' fun e => hj (h.ns1 i j x y hx h2 e.symm)⟩, other q2 (ne_of q2 g1 lst_ins)⟩
  · rcases gets hy with ⟨rfl, rfl⟩ | ⟨hj, hy2⟩
    · exact ⟨(ne_of_none h.gp hn).symm, (ne_of_none h.gs hn).symm⟩
    · exact h.l2 j y hy2
  · rcases gets hy with ⟨rfl, rfl⟩ | ⟨hj, hy2⟩
    · rcases gets hz with ⟨rfl, rfl⟩ | ⟨hk, hz2⟩
      · rfl
      · exact ((rls hz2) e.symm).elim
    · rcases gets hz with ⟨rfl, rfl⟩ | ⟨hk, hz2⟩
      · exact ((rls hy2) e).elim
      · exact h.ns2 j k y z hy2 hz2 e
  · rcases gets hz with ⟨rfl, rfl⟩ | ⟨hk, hz2⟩
    · exact rlp hy
    · exact h.nps j k y z hy hz2
  · rcases gets hy with ⟨rfl, rfl⟩ | ⟨hj, hy2⟩
    · rcases gets hz with ⟨rfl, rfl⟩ | ⟨hk, hz2⟩
      · rfl
      · exact h.ns1 _ k x z hx hz2 e
    · rcases gets hz with ⟨rfl, rfl⟩ | ⟨hk, hz2⟩
      · exact h.ns1 j _ y x hy2 hx e
      · exact h.ns1 j k y z hy2 hz2 e
/-- a new prop, its list of moves -/
theorem RoomL.addP (h : RoomL C G a r dx pl sl ps ss) {q : Mi.Pr} {x ml d : Addr} (hx : G x = none) (hm : G ml = none) (hne : ml ≠ x) :
    RoomL C (upd (upd (upd G x (.ins C.P d (prF q ml))) ml (.lst (q.moves.map V.int))) pl (.lst ((ps ++ [(x, ml)]).map fun x => V.ref x.1))) a { r with props := r.props ++ [q] } dx pl sl (ps ++ [(x, ml)]) ss := by
  have other : ∀ {c : Addr} {o : HO}, G c = some o → c ≠ pl → (upd (upd (upd G x (.ins C.P d (prF q ml))) ml (.lst (q.moves.map V.int))) pl (.lst ((ps ++ [(x, ml)]).map fun x => V.ref x.1))) c = some o := fun {c o} hc hne => by
    rw [upd_ne hne, upd_ne (ne_of_none hc hm), upd_ne (ne_of_none hc hx)]
    exact hc
  have xpl : x ≠ pl := (ne_of_none h.gp hx).symm
  have mpl : ml ≠ pl := (ne_of_none h.gp hm).symm
  have gets : ∀ {j : Nat} {y : Addr × Addr}, (ps ++ [(x, ml)])[j]? = some y → ps[j]? = some y ∨ (j = ps.length ∧ y = (x, ml)) := fun {j y} hy => by
    by_cases hj : j < ps.length
    · rw [List.getElem?_append_left hj] at hy
      exact .inl hy
    · rw [List.getElem?_append_right (by omega)] at hy
      have hk : j - ps.length = 0 := by
        cases q : j - ps.length with
        | zero => rfl
        | succ n =>
          rw [q] at hy
          simp at hy
      rw [hk] at hy
      exact .inr ⟨by omega, (Option.some.inj hy).symm⟩
  have pm : ∀ {j : Nat} {y : Addr × Addr}, ps[j]? = some y → y.2 ≠ ml := fun {j y} hy => by
    obtain ⟨_, _, _, _, _, ms, e⟩ := h.pa hy
    exact ne_of_none e hm
  have sm : ∀ {j : Nat} {y : Addr × Addr}, ss[j]? = some y → y.2 ≠ ml := fun {j y} hy => by
    obtain ⟨_, _, _, _, _, ms, e⟩ := h.sa hy
    exact ne_of_none e hm
  refine ⟨other h.ro h.pla.symm, upd_same, other h.gs h.lp.symm, by rw [List.length_append, List.length_append, h.np]; rfl, h.ns, fun j p y h1 h2 => ?_, fun j s y h1 h2 => ?_, h.lp, fun j y hy => ?_, h.l2, fun j k y z hy hz e => ?_, h.ns2, fun j k y z hy hz => ?_, h.ns1⟩
  · rcases gets h2 with h2 | ⟨rfl, rfl⟩
    · have hj := get_of h2 h.np
      rw [List.getElem?_append_left hj] at h1
      obtain ⟨⟨d2, q1⟩, q2⟩ := h.pr j p y h1 h2
      exact ⟨⟨d2, other q1 (h.pa h2).2.2.1⟩, other q2 (h.l1 j y h2).1⟩
    · rw [h.np, List.getElem?_append_right (Nat.le_refl _), Nat.sub_self] at h1
      cases h1
      exact ⟨⟨d, by rw [upd_ne xpl, upd_ne hne.symm]; exact upd_same⟩, by rw [upd_ne mpl]; exact upd_same⟩
  · obtain ⟨⟨d2, q1⟩, q2⟩ := h.se j s y h1 h2
    exact ⟨⟨d2, other q1 (h.sa h2).2.2.1⟩, other q2 (h.l2 j y h2).1⟩
  · rcases gets hy with hy | ⟨rfl, rfl⟩
    · exact h.l1 j y hy
    · exact ⟨mpl, (ne_of_none h.gs hm).symm⟩
  · rcases gets hy with hy | ⟨rfl, rfl⟩
    · rcases gets hz with hz | ⟨rfl, rfl⟩
      · exact h.np2 j k y z hy hz e
      · exact ((pm hy) e).elim
    · rcases gets hz with hz | ⟨rfl, rfl⟩
      · exact ((pm hz) e.symm).elim
      · rfl
  · rcases gets hy with hy | ⟨rfl, rfl⟩
    · exact h.nps j k y z hy hz
    · exact (sm hz).symm
/-- a new sensor, its list of readings -/
theorem RoomL.addS (h : RoomL C G a r dx pl sl ps ss) {q : Mi.Se} {x ml d : Addr} (hx : G x = none) (hm : G ml = none) (hne : ml ≠ x) :
    RoomL C (upd (upd (upd G x (.ins C.S d (seF q ml))) ml (.lst (q.readings.map V.int))) sl (.lst ((ss ++ [(x, ml)]).map fun x => V.ref x.1))) a { r with sensors := r.sensors ++ [q] } dx pl sl ps (ss ++ [(x, ml)]) := by
  have other : ∀ {c : Addr} {o : HO}, G c = some o → c ≠ sl → (upd (upd (upd G x (.ins C.S d (seF q ml))) ml (.lst (q.readings.map V.int))) sl (.lst ((ss ++ [(x, ml)]).map fun x => V.ref x.1))) c = some o := fun {c o} hc hne => by
    rw [upd_ne hne, upd_ne (ne_of_none hc hm), upd_ne (ne_of_none hc hx)]
    exact hc
  have xpl : x ≠ sl := (ne_of_none h.gs hx).symm
  have mpl : ml ≠ sl := (ne_of_none h.gs hm).symm
  have gets : ∀ {j : Nat} {y : Addr × Addr}, (ss ++ [(x, ml)])[j]? = some y → ss[j]? = some y ∨ (j = ss.length ∧ y = (x, ml)) := fun {j y} hy => by
    by_cases hj : j < ss.length
    · rw [List.getElem?_append_left hj] at hy
      exact .inl hy
    · rw [List.getElem?_append_right (by omega)] at hy
      have hk : j - ss.length = 0 := by
        cases q : j - ss.length with
        | zero => rfl
        | succ n =>
          rw [q] at hy
          simp at hy
      rw [hk] at hy
      exact .inr ⟨by omega, (Option.some.inj hy).symm⟩
  have pm : ∀ {j : Nat} {y : Addr × Addr}, ps[j]? = some y → y.2 ≠ ml := fun {j y} hy => by
    obtain ⟨_, _, _, _, _, ms, e⟩ := h.pa hy
    exact ne_of_none e hm
  have sm : ∀ {j : Nat} {y : Addr × Addr}, ss[j]? = some y → y.2 ≠ ml := fun {j y} hy => by
    obtain ⟨_, _, _, _, _, ms, e⟩ := h.sa hy
    exact ne_of_none e hm
  have s1 : ∀ {j : Nat} {y : Addr × Addr}, ss[j]? = some y → y.1 ≠ x := fun {j y} hy => by
    obtain ⟨_, _, _, _, ⟨d, q, e⟩, _⟩ := h.sa hy
    exact ne_of_none e hx
  refine ⟨other h.ro h.sla.symm, other h.gp h.lp, upd_same, h.np, by rw [List.length_append, List.length_append, h.ns]; rfl, fun j p y h1 h2 => ?_, fun j s y h1 h2 => ?_, h.lp, h.l1, fun j y hy => ?_, h.np2, fun j k y z hy hz e => ?_, fun j k y z hy hz => ?_, fun j k y z hy hz e => ?_⟩
  · obtain ⟨⟨d2, q1⟩, q2⟩ := h.pr j p y h1 h2
    exact ⟨⟨d2, other q1 (h.pa h2).2.2.2.1⟩, other q2 (h.l1 j y h2).2⟩
  · rcases gets h2 with h2 | ⟨rfl, rfl⟩
    · have hj := get_of h2 h.ns
      rw [List.getElem?_append_left hj] at h1
      obtain ⟨⟨d2, q1⟩, q2⟩ := h.se j s y h1 h2
      exact ⟨⟨d2, other q1 (h.sa h2).2.2.2.1⟩, other q2 (h.l2 j y h2).2⟩
    · rw [h.ns, List.getElem?_append_right (Nat.le_refl _), Nat.sub_self] at h1
      cases h1
      exact ⟨⟨d, by rw [upd_ne xpl, upd_ne hne.symm]; exact upd_same⟩, by rw [upd_ne mpl]; exact upd_same⟩
  · rcases gets hy with hy | ⟨rfl, rfl⟩
    · exact h.l2 j y hy
    · exact ⟨(ne_of_none h.gp hm).symm, mpl⟩
  · rcases gets hy with hy | ⟨rfl, rfl⟩
    · rcases gets hz with hz | ⟨rfl, rfl⟩
      · exact h.ns2 j k y z hy hz e
      · exact ((sm hy) e).elim
    · rcases gets hz with hz | ⟨rfl, rfl⟩
      · exact ((sm hz) e.symm).elim
      · rfl
  · rcases gets hz with hz | ⟨rfl, rfl⟩
    · exact h.nps j k y z hy hz
    · exact pm hy
  · rcases gets hy with hy | ⟨rfl, rfl⟩
    · rcases gets hz with hz | ⟨rfl, rfl⟩
      · exact h.ns1 j k y z hy hz e
      · exact ((s1 hy) e).elim
    · rcases gets hz with hz | ⟨rfl, rfl⟩
      · exact ((s1 hz) e.symm).elim
      · rfl
/-- an empty room -/
theorem RoomL.empty {most : Nat} (hr : G a = some (.ins C.R dx (roF ⟨most, false, 0, [], []⟩ pl sl))) (hp : G pl = some (.lst [])) (hs : G sl = some (.lst [])) (hne : pl ≠ sl) : RoomL C G a ⟨most, false, 0, [], []⟩ dx pl sl [] [] :=
  ⟨hr, hp, hs, rfl, rfl, fun i q x h1 _ => by simp at h1, fun i q x h1 _ => by simp at h1, hne, fun i x h => by simp at h, fun i x h => by simp at h, fun i j x y h _ _ => by simp at h, fun i j x y h _ _ => by simp at h, fun i j x y h _ => by simp at h, fun i j x y h _ _ => by simp at h⟩
end

/-! ### the heap where a region G changes -/
structure Mut (G H G2 H2 : Hp) : Prop where
  gh : Ex G2 H2
  keep : ∀ c o, G c = none → H c = some o → H2 c = some o
  nw : ∀ c, G c = none → H c ≠ none → G2 c = none
theorem Mut.refl {G H : Hp} (e : Ex G H) : Mut G H G H := ⟨e, fun _ _ _ q => q, fun _ n _ => n⟩
theorem Mut.trans {G H G1 H1 G2 H2 : Hp} (a : Mut G H G1 H1) (b : Mut G1 H1 G2 H2) : Mut G H G2 H2 :=
  ⟨b.gh, fun c o n q => b.keep c o (a.nw c n (some_ne q)) (a.keep c o n q), fun c n q => b.nw c (a.nw c n q) (by
    cases e : H c with
    | none => exact (q e).elim
    | some o => exact some_ne (a.keep c o n e))⟩
theorem Mut.more {G H G2 H2 H3 : Hp} (a : Mut G H G2 H2) (e : Ex H2 H3) : Mut G H G2 H3 := ⟨a.gh.trans e, fun c o n q => e c o (a.keep c o n q), a.nw⟩
theorem Mut.less {G H H1 G2 H2 : Hp} (e : Ex H H1) (a : Mut G H1 G2 H2) : Mut G H G2 H2 := ⟨a.gh, fun c o n q => a.keep c o n (e c o q), fun c n q => a.nw c n (ne_ex e q)⟩
/-- an object of the region is written -/
theorem Mut.wr {G H : Hp} {c : Addr} {o u : HO} (e : Ex G H) (h : G c = some u) : Mut G H (upd G c o) (upd H c o) :=
  ⟨ex_upd2 e, fun b x n q => by
    have hb : b ≠ c := fun z => by
      rw [z, h] at n
      cases n
    rw [upd_ne hb]
    exact q, fun b n q => by
    have hb : b ≠ c := fun z => by
      rw [z, h] at n
      cases n
    rw [upd_ne hb]
    exact n⟩
/-- a new object joins the region -/
theorem Mut.new {G H : Hp} {c : Addr} {o : HO} (e : Ex G H) (h : H c = none) : Mut G H (upd G c o) (upd H c o) :=
  ⟨ex_upd2 e, fun b x n q => by
    rw [upd_ne (ne_of_none q h)]
    exact q, fun b n q => by
    rw [upd_ne fun z => q (by rw [z]; exact h)]
    exact n⟩
end Sk
/-! part W13 -/
namespace Sk
open PySem PySem.Spec PyProof.Rows L2 Evl
/-! ### writing fields -/
theorem put_here {f : Str} {v x : V} {r : List (Str × V)} : putF f v ((f, x) :: r) = (f, v) :: r := if_pos rfl
theorem put_past {f g : Str} {v x : V} {r : List (Str × V)} (h : ¬ g = f) : putF f v ((g, x) :: r) = (g, x) :: putF f v r := if_neg h
theorem put_nil {f : Str} {v : V} : putF f v [] = [(f, v)] := rfl
theorem put2 {f g : Str} {v x : V} {r : List (Str × V)} {s : List (Str × V)} (h : ¬ g = f) (e : putF f v r = s) : putF f v ((g, x) :: r) = (g, x) :: s := by rw [put_past h, e]
theorem putR_most {r : Mi.Ro} {pl sl : Addr} {n : Nat} : putF ("most" : Str) (.int (n : Int)) (roF r pl sl) = roF { r with most := n } pl sl := put_here
theorem putR_begun {r : Mi.Ro} {pl sl : Addr} {b : Bool} : putF ("begun" : Str) (.bl b) (roF r pl sl) = roF { r with begun := b } pl sl := put2 (by decide +kernel) put_here
theorem putR_now {r : Mi.Ro} {pl sl : Addr} {n : Nat} : putF ("now" : Str) (.int (n : Int)) (roF r pl sl) = roF { r with now := n } pl sl := put2 (by decide +kernel) (put2 (by decide +kernel) put_here)
theorem putR_props {r : Mi.Ro} {pl sl p : Addr} : putF ("props" : Str) (.ref p) (roF r pl sl) = roF r p sl := put2 (by decide +kernel) (put2 (by decide +kernel) (put2 (by decide +kernel) put_here))
theorem putR_sensors {r : Mi.Ro} {pl sl p : Addr} : putF ("sensors" : Str) (.ref p) (roF r pl sl) = roF r pl p := put2 (by decide +kernel) (put2 (by decide +kernel) (put2 (by decide +kernel) (put2 (by decide +kernel) put_here)))
theorem putS_first {x : Mi.Se} {rl : Addr} {n : Nat} : putF ("first" : Str) (.int (n : Int)) (seF x rl) = seF { x with first := n } rl := put2 (by decide +kernel) (put2 (by decide +kernel) put_here)
theorem putS_readings {x : Mi.Se} {rl p : Addr} : putF ("readings" : Str) (.ref p) (seF x rl) = seF x p := put2 (by decide +kernel) (put2 (by decide +kernel) (put2 (by decide +kernel) put_here))
theorem upd_swap {H : Hp} {p q : Addr} {x y z : HO} (h : q ≠ p) : upd (upd (upd H p x) q y) p z = upd (upd H p z) q y := funext fun c => by
  by_cases h1 : c = p
  · subst h1
    rw [upd_same, upd_ne h.symm, upd_same]
  · by_cases h2 : c = q
    · subst h2
      rw [upd_ne h1, upd_same, upd_same]
    · rw [upd_ne h1, upd_ne h2, upd_ne h1, upd_ne h2, upd_ne h1]

/-! ### the promises of the classes -/
def sp_Prop_init (K : PySem.W.Frag) (C : Cs) : Sp := fun vs H Q _ => ∃ p dx, ∃ n : Nat, vs = [.ref p, .int (n : Int)] ∧ H p = some (.ins C.P dx []) ∧ ∀ ml, ml ≠ p → H ml = none → Q .non (upd (upd H p (.ins C.P dx (prF ⟨n, [-2]⟩ ml))) ml (.lst [.int (-2)]))
def sp_Sensor_init (K : PySem.W.Frag) (C : Cs) : Sp := fun vs H Q _ => ∃ p dx, ∃ n e : Nat, vs = [.ref p, .int (n : Int), .int (e : Int)] ∧ H p = some (.ins C.S dx []) ∧ ∀ ml, ml ≠ p → H ml = none → Q .non (upd (upd H p (.ins C.S dx (seF ⟨n, e, 0, [-1]⟩ ml))) ml (.lst [.int (-1)]))
def sp_Room_init (K : PySem.W.Frag) (C : Cs) : Sp := fun vs H Q _ => ∃ p dx, vs = [.ref p] ∧ H p = some (.ins C.R dx []) ∧ ∀ H2 pl sl, H pl = none → H sl = none → pl ≠ sl → H2 p = some (.ins C.R dx (roF ⟨0, false, 0, [], []⟩ pl sl)) → H2 pl = some (.lst []) → H2 sl = some (.lst []) → (∀ c, c ≠ p → c ≠ pl → c ≠ sl → H2 c = H c) → Q .non H2
/-- the region G of the room, the footprint F of what else is at hand -/
structure Su (G F H : Hp) : Prop where
  eg : Ex G H
  ef : Ex F H
  dj : ∀ c, F c ≠ none → G c = none
theorem Su.mut {G F H G2 H2 : Hp} (s : Su G F H) (m : Mut G H G2 H2) : Su G2 F H2 :=
  ⟨m.gh, fun c o q => m.keep c o (s.dj c (some_ne q)) (s.ef c o q), fun c q => m.nw c (s.dj c q) (ne_ex s.ef q)⟩
theorem Su.grow {G F H F1 H1 : Hp} (s : Su G F H) (g : Grow F H F1 H1) : Su G F1 H1 :=
  ⟨s.eg.trans g.hh, g.gh, fun c q => by
    by_cases h1 : F c = none
    · by_cases h2 : H c = none
      · exact fresh_back s.eg h2
      · exact (q (g.nw c h1 h2)).elim
    · exact s.dj c h1⟩
def mutSp {α : Type} (C : Cs) (rep : α → List Rp) (ok : Mi.Ro → α → Prop) (r' : Mi.Ro → α → Mi.Ro) : Sp := fun vs H Q _ => ∃ a r x us G F, vs = .ref a :: us ∧ Su G F H ∧ RoomAt C G a r ∧ All2 F (rep x) us ∧ ok r x ∧ ∀ G2 H2, Mut G H G2 H2 → RoomAt C G2 a (r' r x) → Q .non H2
theorem mutSp_len {α : Type} {C : Cs} {rep : α → List Rp} {ok : Mi.Ro → α → Prop} {r' : Mi.Ro → α → Mi.Ro} {n : Nat} (hn : ∀ a, (rep a).length = n) {vs : List V} {H : Hp} {Q : VK} {E : XK} (h : mutSp C rep ok r' vs H Q E) : vs.length = n + 1 := by
  obtain ⟨a, r, x, us, G, F, rfl, _, _, hu, _⟩ := h
  rw [List.length_cons, hu.length, hn]
def sp_Room_begin (K : PySem.W.Frag) (C : Cs) : Sp := mutSp C (fun (n : Nat) => [dN n]) (fun _ _ => True) fun _ n => ⟨n, false, 0, [], []⟩
def sp_Room_add_prop (K : PySem.W.Frag) (C : Cs) : Sp := mutSp C (fun (n : Nat) => [dN n]) (fun r _ => r.props.length < 1000) fun r n => { r with props := r.props ++ [⟨n, [-2]⟩] }
def sp_Room_add_sensor (K : PySem.W.Frag) (C : Cs) : Sp := mutSp C (fun (x : Nat × Nat) => [dN x.1, dN x.2]) (fun r _ => r.sensors.length < 1000) fun r x => { r with sensors := r.sensors ++ [⟨x.1, x.2, 0, [-1]⟩] }
def sp_Room_go (K : PySem.W.Frag) (C : Cs) : Sp := mutSp C (fun (_ : Unit) => []) (fun _ _ => True) fun r _ => { r with begun := true }
def sp_Room_step (K : PySem.W.Frag) (C : Cs) : Sp := mutSp C (fun (x : List Int × List Int) => [dInts K x.1, dInts K x.2]) (fun r x => Mi.Ok r ∧ x.1.length = r.props.length ∧ x.2.length = r.sensors.length) fun r x => Mi.stepped r x.1 x.2
def sp_Room_mend (K : PySem.W.Frag) (C : Cs) : Sp := mutSp C (fun (i : Nat) => [dN i]) (fun r i => i < r.sensors.length ∧ r.now ≤ 1000) fun r i => Mi.mended r i
def sp_Room_allow (K : PySem.W.Frag) (C : Cs) : Sp := mutSp C (fun (n : Nat) => [dN n]) (fun _ _ => True) fun r n => { r with most := n }
abbrev s_Prop_init : Stmt := inClass (top 3) 0
abbrev N_Prop_init : List Str := ["self", "size"]
def t_Prop_init (K : PySem.W.Frag) (C : Cs) : TS :=
  (tSeq (sFld K (tVar 0) (tVar 1) "size")
    (sFld K (tVar 0) (tLst (tCons (tC (.int (-2))) tNil)) "moves"))
abbrev s_Sensor_init : Stmt := inClass (top 4) 0
abbrev N_Sensor_init : List Str := ["self", "prop", "error"]
def t_Sensor_init (K : PySem.W.Frag) (C : Cs) : TS :=
  (tSeq (sFld K (tVar 0) (tVar 1) "prop")
    (tSeq (sFld K (tVar 0) (tVar 2) "error")
    (tSeq (sFld K (tVar 0) (tC (.int 0)) "first")
    (sFld K (tVar 0) (tLst (tCons (tC (.int (-1))) tNil)) "readings"))))
abbrev s_Room_init : Stmt := inClass (top 5) 0
abbrev N_Room_init : List Str := ["self"]
def t_Room_init (K : PySem.W.Frag) (C : Cs) : TS :=
  (tSeq (sFld K (tVar 0) (tC (.int 0)) "most")
    (tSeq (sFld K (tVar 0) (tC (.bl false)) "begun")
    (tSeq (sFld K (tVar 0) (tC (.int 0)) "now")
    (tSeq (sFld K (tVar 0) (tLst tNil) "props")
    (sFld K (tVar 0) (tLst tNil) "sensors")))))
abbrev s_Room_begin : Stmt := inClass (top 5) 1
abbrev N_Room_begin : List Str := ["self", "most"]
def t_Room_begin (K : PySem.W.Frag) (C : Cs) : TS :=
  (tSeq (sFld K (tVar 0) (tVar 1) "most")
    (tSeq (sFld K (tVar 0) (tC (.bl false)) "begun")
    (tSeq (sFld K (tVar 0) (tC (.int 0)) "now")
    (tSeq (sFld K (tVar 0) (tLst tNil) "props")
    (sFld K (tVar 0) (tLst tNil) "sensors")))))
abbrev s_Room_add_prop : Stmt := inClass (top 5) 2
abbrev N_Room_add_prop : List Str := ["self", "size"]
def t_Room_add_prop (K : PySem.W.Frag) (C : Cs) : TS :=
  (tDrop (tBM K "list" rAppend (tFld K (tVar 0) "props") (tCons (tMake C.P (sp_Prop_init K C) [] E0 (tCons (tVar 1) tNil)) tNil)))
abbrev s_Room_add_sensor : Stmt := inClass (top 5) 3
abbrev N_Room_add_sensor : List Str := ["self", "prop", "error"]
def t_Room_add_sensor (K : PySem.W.Frag) (C : Cs) : TS :=
  (tDrop (tBM K "list" rAppend (tFld K (tVar 0) "sensors") (tCons (tMake C.S (sp_Sensor_init K C) [] E0 (tCons (tVar 1) (tCons (tVar 2) tNil))) tNil)))
abbrev s_Room_go : Stmt := inClass (top 5) 4
abbrev N_Room_go : List Str := ["self"]
def t_Room_go (K : PySem.W.Frag) (C : Cs) : TS :=
  (sFld K (tVar 0) (tC (.bl true)) "begun")
abbrev s_Room_step : Stmt := inClass (top 5) 5
abbrev N_Room_step : List Str := ["self", "going", "seen", "prop", "move", "sensor", "reading"]
def t_Room_step (K : PySem.W.Frag) (C : Cs) : TS :=
  (tSeq (sFldAug K (tVar 0) (tC (.int 1)) rAdd "now")
    (tSeq (tFor (iZip K (tCons (tFld K (tVar 0) "props") (tCons (tVar 1) tNil))) (gTup K 2 (gCons (gName 3) (gCons (gName 4) gNil))) (tDrop (tBM K "list" rAppend (tFld K (tVar 3) "moves") (tCons (tVar 4) tNil))))
    (tFor (iZip K (tCons (tFld K (tVar 0) "sensors") (tCons (tVar 2) tNil))) (gTup K 2 (gCons (gName 5) (gCons (gName 6) gNil))) (tDrop (tBM K "list" rAppend (tFld K (tVar 5) "readings") (tCons (tVar 6) tNil))))))
abbrev s_Room_mend : Stmt := inClass (top 5) 6
abbrev N_Room_mend : List Str := ["self", "number", "sensor"]
def t_Room_mend (K : PySem.W.Frag) (C : Cs) : TS :=
  (tSeq (tAsg (tOp (rIxL K) (tFld K (tVar 0) "sensors") (tVar 1)) (gName 2))
    (tSeq (sFld K (tVar 2) (tOp (rI0 fun i j => .int (i + j)) (tFld K (tVar 0) "now") (tC (.int 1))) "first")
    (sFld K (tVar 2) (tOp rRep (tLst (tCons (tC (.int (-1))) tNil)) (tOp (rI0 fun i j => .int (i + j)) (tFld K (tVar 0) "now") (tC (.int 1)))) "readings")))
abbrev s_Room_allow : Stmt := inClass (top 5) 7
abbrev N_Room_allow : List Str := ["self", "most"]
def t_Room_allow (K : PySem.W.Frag) (C : Cs) : TS :=
  (sFld K (tVar 0) (tVar 1) "most")
section
variable {K : PySem.W.Frag} {C : Cs} {vs : List V} {H : Hp} {Q : VK} {E : XK}
theorem len_Prop_init (h : sp_Prop_init K C vs H Q E) : vs.length = 2 := by
  obtain ⟨p, dx, n, rfl, _⟩ := h
  rfl
theorem len_Sensor_init (h : sp_Sensor_init K C vs H Q E) : vs.length = 3 := by
  obtain ⟨p, dx, n, e, rfl, _⟩ := h
  rfl
theorem len_Room_init (h : sp_Room_init K C vs H Q E) : vs.length = 1 := by
  obtain ⟨p, dx, rfl, _⟩ := h
  rfl
theorem len_Room_begin (h : sp_Room_begin K C vs H Q E) : vs.length = 2 := mutSp_len (n := 1) (by intro _; rfl) h
theorem len_Room_add_prop (h : sp_Room_add_prop K C vs H Q E) : vs.length = 2 := mutSp_len (n := 1) (by intro _; rfl) h
theorem len_Room_add_sensor (h : sp_Room_add_sensor K C vs H Q E) : vs.length = 3 := mutSp_len (n := 2) (by intro _; rfl) h
theorem len_Room_go (h : sp_Room_go K C vs H Q E) : vs.length = 1 := mutSp_len (n := 0) (by intro _; rfl) h
theorem len_Room_step (h : sp_Room_step K C vs H Q E) : vs.length = 3 := mutSp_len (n := 2) (by intro _; rfl) h
theorem len_Room_mend (h : sp_Room_mend K C vs H Q E) : vs.length = 2 := mutSp_len (n := 1) (by intro _; rfl) h
theorem len_Room_allow (h : sp_Room_allow K C vs H Q E) : vs.length = 2 := mutSp_len (n := 1) (by intro _; rfl) h
end
section
variable {K : PySem.W.Frag} {mg : Str → Option Value} {C : Cs} {vs : List V} {H : Hp} {Q : VK} {E : XK}
theorem rd_Prop_init (T : Txt K mg C) (h : sp_Prop_init K C vs H Q E) : t_Prop_init K C { nx := fun _ H' => Q .non H', rt := Q } (start N_Prop_init vs) H := by
  obtain ⟨p, dx, n, rfl, hp, q⟩ := h
  refine ⟨_, rfl, _, rfl, p, C.P, dx, [], rfl, hp, T.clP, T.nP_size, (by show 0 < 1000; decide), ?_⟩
  refine ⟨(by show 1 ≤ sizeLine; decide), fun ml hm => ⟨_, rfl, p, C.P, dx, [("size", .int (n : Int))], rfl, ?_, T.clP, T.nP_moves, (by show 1 < 1000; decide), ?_⟩⟩
  · have hne : p ≠ ml := fun e => by
      rw [← e, upd_same] at hm
      cases hm
    rw [upd_ne hne, upd_same, put_nil]
  · have hne : ml ≠ p := fun e => by
      rw [e, upd_same] at hm
      cases hm
    rw [upd_ne hne] at hm
    have e2 := q ml hne hm
    show Q .non (upd (upd (upd H p _) ml _) p _)
    rw [upd_swap hne, put2 (by decide +kernel) put_nil]
    exact e2
theorem rd_Sensor_init (T : Txt K mg C) (h : sp_Sensor_init K C vs H Q E) : t_Sensor_init K C { nx := fun _ H' => Q .non H', rt := Q } (start N_Sensor_init vs) H := by
  obtain ⟨p, dx, n, e, rfl, hp, q⟩ := h
  refine ⟨_, rfl, _, rfl, p, C.S, dx, [], rfl, hp, T.clS, T.nS_prop, (by show 0 < 1000; decide), ?_⟩
  refine ⟨_, rfl, _, rfl, p, C.S, dx, _, rfl, upd_same, T.clS, T.nS_error, (by show 1 < 1000; decide), ?_⟩
  refine ⟨_, rfl, p, C.S, dx, _, rfl, upd_same, T.clS, T.nS_first, (by show 2 < 1000; decide), ?_⟩
  refine ⟨(by show 1 ≤ sizeLine; decide), fun ml hm => ?_⟩
  have hne : ml ≠ p := fun e => by
    rw [e, upd_same] at hm
    cases hm
  rw [upd_ne hne, upd_ne hne, upd_ne hne] at hm
  refine ⟨_, rfl, p, C.S, dx, [("prop", .int (n : Int)), ("error", .int (e : Int)), ("first", .int 0)], rfl, ?_, T.clS, T.nS_readings, (by show 3 < 1000; decide), ?_⟩
  · rw [upd_ne hne.symm, upd_same, put_nil]
    rfl
  · have e2 := q ml hne hm
    show Q .non (upd (upd (upd (upd (upd H p _) p _) p _) ml _) p _)
    rw [upd_swap hne, upd_upd, upd_upd]
    exact e2
theorem rd_Room_init (T : Txt K mg C) (h : sp_Room_init K C vs H Q E) : t_Room_init K C { nx := fun _ H' => Q .non H', rt := Q } (start N_Room_init vs) H := by
  obtain ⟨p, dx, rfl, hp, q⟩ := h
  refine ⟨_, rfl, p, C.R, dx, [], rfl, hp, T.clR, T.nR_most, (by show 0 < 1000; decide), ?_⟩
  refine ⟨_, rfl, p, C.R, dx, _, rfl, upd_same, T.clR, T.nR_begun, (by show 1 < 1000; decide), ?_⟩
  refine ⟨_, rfl, p, C.R, dx, _, rfl, upd_same, T.clR, T.nR_now, (by show 2 < 1000; decide), ?_⟩
  refine ⟨(by show 0 ≤ sizeLine; decide), fun pl hpl => ?_⟩
  have np : pl ≠ p := fun e => by
    rw [e, upd_same] at hpl
    cases hpl
  rw [upd_ne np, upd_ne np, upd_ne np] at hpl
  refine ⟨_, rfl, p, C.R, dx, [("most", .int 0), ("begun", .bl false), ("now", .int 0)], rfl, ?_, T.clR, T.nR_props, (by show 3 < 1000; decide), ?_⟩
  · rw [upd_ne np.symm, upd_same]
    rfl
  refine ⟨(by show 0 ≤ sizeLine; decide), fun sl hsl => ?_⟩
  have ns : sl ≠ p := fun e => by
    rw [e, upd_same] at hsl
    cases hsl
  rw [upd_ne ns] at hsl
  have nps : pl ≠ sl := fun e => by
    rw [← e, upd_same] at hsl
    cases hsl
  rw [upd_ne nps.symm, upd_ne ns, upd_ne ns, upd_ne ns] at hsl
  refine ⟨_, rfl, p, C.R, dx, [("most", .int 0), ("begun", .bl false), ("now", .int 0), ("props", .ref pl)], rfl, ?_, T.clR, T.nR_sensors, (by show 4 < 1000; decide), ?_⟩
  · rw [upd_ne ns.symm, upd_same]
    rfl
  refine q _ pl sl hpl hsl nps ?_ ?_ ?_ fun c h1 h2 h3 => ?_
  · rw [upd_same]
    rfl
  · rw [upd_ne np, upd_ne nps, upd_ne np, upd_same]
  · rw [upd_ne ns, upd_same]
  · rw [upd_ne h1, upd_ne h3, upd_ne h1, upd_ne h2, upd_ne h1, upd_ne h1, upd_ne h1]
theorem rd_Room_begin (T : Txt K mg C) (h : sp_Room_begin K C vs H Q E) : t_Room_begin K C { nx := fun _ H' => Q .non H', rt := Q } (start N_Room_begin vs) H := by
  obtain ⟨a, r, n, us, G, F, rfl, s, hr, hu, _, q⟩ := h
  obtain ⟨dx, pl, sl, ps, ss, h⟩ := hr.ex
  obtain ⟨x, rfl, hx⟩ := hu.inv1
  have ex : x = .int (n : Int) := hx
  subst ex
  refine ⟨_, rfl, _, rfl, a, C.R, dx, _, rfl, s.eg a _ h.ro, T.clR, T.nR_most, (by show 5 < 1000; decide), ?_⟩
  refine ⟨_, rfl, a, C.R, dx, _, rfl, upd_same, T.clR, T.nR_begun, (by show 5 < 1000; decide), ?_⟩
  refine ⟨_, rfl, a, C.R, dx, _, rfl, upd_same, T.clR, T.nR_now, (by show 5 < 1000; decide), ?_⟩
  refine ⟨(by show 0 ≤ sizeLine; decide), fun p hp => ?_⟩
  have m1 := Mut.wr (o := .ins C.R dx (putF "most" (.int (n : Int)) (roF r pl sl))) s.eg h.ro
  have m2 := m1.trans (Mut.wr (o := .ins C.R dx (putF "begun" (.bl false) (putF "most" (.int (n : Int)) (roF r pl sl)))) m1.gh upd_same)
  have m3 := m2.trans (Mut.wr (o := .ins C.R dx (putF "now" (.int (0 : Nat)) (putF "begun" (.bl false) (putF "most" (.int (n : Int)) (roF r pl sl))))) m2.gh upd_same)
  have m4 := m3.trans (Mut.new (o := .lst []) m3.gh hp)
  have np : p ≠ a := fun e => by
    rw [e, upd_same] at hp
    cases hp
  have e4 : upd (upd (upd (upd G a (.ins C.R dx (putF "most" (.int (n : Int)) (roF r pl sl)))) a (.ins C.R dx (putF "begun" (.bl false) (putF "most" (.int (n : Int)) (roF r pl sl))))) a (.ins C.R dx (putF "now" (.int (0 : Nat)) (putF "begun" (.bl false) (putF "most" (.int (n : Int)) (roF r pl sl)))))) p (.lst []) a = some (.ins C.R dx (roF ⟨n, false, 0, [], []⟩ pl sl)) := by
    rw [upd_ne np.symm, upd_same, putR_most, putR_begun, putR_now]
    rfl
  have m5 := m4.trans (Mut.wr (o := .ins C.R dx (roF ⟨n, false, 0, [], []⟩ p sl)) m4.gh e4)
  refine ⟨_, rfl, a, C.R, dx, roF ⟨n, false, 0, [], []⟩ pl sl, rfl, m4.gh a _ e4, T.clR, T.nR_props, (by show 5 < 1000; decide), ?_⟩
  rw [putR_props]
  refine ⟨(by show 0 ≤ sizeLine; decide), fun p2 hp2 => ?_⟩
  have np2 : p2 ≠ a := fun e => by
    rw [e, upd_same] at hp2
    cases hp2
  have npp : p ≠ p2 := fun e => by
    rw [← e, upd_ne np, upd_same] at hp2
    cases hp2
  have m6 := m5.trans (Mut.new (o := .lst []) m5.gh hp2)
  refine ⟨_, rfl, a, C.R, dx, roF ⟨n, false, 0, [], []⟩ p sl, rfl, ?_, T.clR, T.nR_sensors, (by show 5 < 1000; decide), ?_⟩
  · rw [upd_ne np2.symm, upd_same]
  rw [putR_sensors]
  have m7 := m6.trans (Mut.wr (c := a) (u := .ins C.R dx (roF ⟨n, false, 0, [], []⟩ p sl)) (o := .ins C.R dx (roF ⟨n, false, 0, [], []⟩ p p2)) m6.gh (by rw [upd_ne np2.symm, upd_same]))
  refine q _ _ m7 ⟨dx, p, p2, [], [], RoomL.empty upd_same ?_ ?_ npp⟩
  · rw [upd_ne np, upd_ne npp, upd_ne np, upd_same]
  · rw [upd_ne np2, upd_same]
theorem rd_Room_go (T : Txt K mg C) (h : sp_Room_go K C vs H Q E) : t_Room_go K C { nx := fun _ H' => Q .non H', rt := Q } (start N_Room_go vs) H := by
  obtain ⟨a, r, n, us, G, F, rfl, s, hr, hu, _, q⟩ := h
  obtain ⟨dx, pl, sl, ps, ss, h⟩ := hr.ex
  cases hu
  refine ⟨_, rfl, a, C.R, dx, _, rfl, s.eg a _ h.ro, T.clR, T.nR_begun, (by show 5 < 1000; decide), ?_⟩
  rw [putR_begun]
  exact q _ _ (Mut.wr s.eg h.ro) ⟨dx, pl, sl, ps, ss, h.num rfl rfl⟩
theorem rd_Room_allow (T : Txt K mg C) (h : sp_Room_allow K C vs H Q E) : t_Room_allow K C { nx := fun _ H' => Q .non H', rt := Q } (start N_Room_allow vs) H := by
  obtain ⟨a, r, n, us, G, F, rfl, s, hr, hu, _, q⟩ := h
  obtain ⟨dx, pl, sl, ps, ss, h⟩ := hr.ex
  obtain ⟨x, rfl, hx⟩ := hu.inv1
  have ex : x = .int (n : Int) := hx
  subst ex
  refine ⟨_, rfl, _, rfl, a, C.R, dx, _, rfl, s.eg a _ h.ro, T.clR, T.nR_most, (by show 5 < 1000; decide), ?_⟩
  rw [putR_most]
  exact q _ _ (Mut.wr s.eg h.ro) ⟨dx, pl, sl, ps, ss, h.num rfl rfl⟩
theorem rd_Room_add_prop (T : Txt K mg C) (h : sp_Room_add_prop K C vs H Q E) : t_Room_add_prop K C { nx := fun _ H' => Q .non H', rt := Q } (start N_Room_add_prop vs) H := by
  obtain ⟨a, r, n, us, G, F, rfl, s, hr, hu, hk, q⟩ := h
  obtain ⟨dx, pl, sl, ps, ss, h⟩ := hr.ex
  obtain ⟨y, rfl, hy⟩ := hu.inv1
  have ey : y = .int (n : Int) := hy
  subst ey
  refine ⟨_, rfl, a, C.R, dx, _, _, rfl, s.eg a _ h.ro, T.clR, T.nR_props, roF_props, Or.inl ⟨rfl, _, sq_of (s.eg pl _ h.gp)⟩, _, rfl, fun x d hx hd hne => ?_⟩
  refine ⟨x, d, n, rfl, upd_same, fun ml hmx hm => ⟨rfl, ?_⟩⟩
  rw [upd_ne hmx] at hm
  have hmd : ml ≠ d := fun e => by
    rw [e, upd_same] at hm
    cases hm
  rw [upd_ne hmd] at hm
  have hpl := s.eg pl _ h.gp
  have n1 : pl ≠ x := ne_of_none hpl hx
  have n2 : pl ≠ d := ne_of_none hpl hd
  have n3 : pl ≠ ml := ne_of_none hpl hm
  refine ⟨pl, ps.map fun x => V.ref x.1, .ref x, rfl, rfl, ?_, ?_, ?_⟩
  · rw [upd_ne n3, upd_ne n1, upd_ne n1, upd_ne n2]
    exact hpl
  · rw [List.length_map, h.np]
    exact Nat.lt_of_lt_of_le hk (by decide)
  · have m : Mut G H (upd (upd (upd G x (.ins C.P d (prF ⟨n, [-2]⟩ ml))) ml (.lst [.int (-2)])) pl (.lst ((ps.map fun x => V.ref x.1) ++ [.ref x])))
        (upd (upd (upd (upd (upd H d (.own x)) x (.ins C.P d [])) x (.ins C.P d (prF ⟨n, [-2]⟩ ml))) ml (.lst [.int (-2)])) pl (.lst ((ps.map fun x => V.ref x.1) ++ [.ref x]))) := by
      rw [upd_upd]
      refine (Mut.refl s.eg).trans (.less (Ex.new hd) (.trans (.new (s.eg.trans (Ex.new hd)) (by rw [upd_ne hne.symm]; exact hx)) (.trans (.new (ex_upd2 (s.eg.trans (Ex.new hd))) ?_) (.wr (u := .lst (ps.map fun x => V.ref x.1)) (ex_upd2 (ex_upd2 (s.eg.trans (Ex.new hd)))) ?_))))
      · rw [upd_ne hmx, upd_ne hmd]
        exact hm
      · rw [upd_ne n3, upd_ne n1]
        exact h.gp
    have e1 : (ps.map fun x => V.ref x.1) ++ [.ref x] = (ps ++ [(x, ml)]).map fun x => V.ref x.1 := by
      rw [List.map_append]
      rfl
    have hr2 := h.addP (q := ⟨n, [-2]⟩) (x := x) (ml := ml) (d := d) (fresh_back s.eg hx) (fresh_back s.eg hm) hmx
    rw [e1] at m ⊢
    exact q _ _ m ⟨dx, pl, sl, _, ss, hr2⟩
theorem rd_Room_add_sensor (T : Txt K mg C) (h : sp_Room_add_sensor K C vs H Q E) : t_Room_add_sensor K C { nx := fun _ H' => Q .non H', rt := Q } (start N_Room_add_sensor vs) H := by
  obtain ⟨a, r, ⟨n, e⟩, us, G, F, rfl, s, hr, hu, hk, q⟩ := h
  obtain ⟨dx, pl, sl, ps, ss, h⟩ := hr.ex
  obtain ⟨y, z, rfl, hy, hz⟩ := hu.inv2
  have ey : y = .int (n : Int) := hy
  have ez : z = .int (e : Int) := hz
  subst ey
  subst ez
  refine ⟨_, rfl, a, C.R, dx, _, _, rfl, s.eg a _ h.ro, T.clR, T.nR_sensors, roF_sensors, Or.inl ⟨rfl, _, sq_of (s.eg sl _ h.gs)⟩, _, rfl, _, rfl, fun x d hx hd hne => ?_⟩
  refine ⟨x, d, n, e, rfl, upd_same, fun ml hmx hm => ⟨rfl, ?_⟩⟩
  rw [upd_ne hmx] at hm
  have hmd : ml ≠ d := fun e => by
    rw [e, upd_same] at hm
    cases hm
  rw [upd_ne hmd] at hm
  have hpl := s.eg sl _ h.gs
  have n1 : sl ≠ x := ne_of_none hpl hx
  have n2 : sl ≠ d := ne_of_none hpl hd
  have n3 : sl ≠ ml := ne_of_none hpl hm
  refine ⟨sl, ss.map fun x => V.ref x.1, .ref x, rfl, rfl, ?_, ?_, ?_⟩
  · rw [upd_ne n3, upd_ne n1, upd_ne n1, upd_ne n2]
    exact hpl
  · rw [List.length_map, h.ns]
    exact Nat.lt_of_lt_of_le hk (by decide)
  · have m : Mut G H (upd (upd (upd G x (.ins C.S d (seF ⟨n, e, 0, [-1]⟩ ml))) ml (.lst [.int (-1)])) sl (.lst ((ss.map fun x => V.ref x.1) ++ [.ref x])))
        (upd (upd (upd (upd (upd H d (.own x)) x (.ins C.S d [])) x (.ins C.S d (seF ⟨n, e, 0, [-1]⟩ ml))) ml (.lst [.int (-1)])) sl (.lst ((ss.map fun x => V.ref x.1) ++ [.ref x]))) := by
      rw [upd_upd]
      refine (Mut.refl s.eg).trans (.less (Ex.new hd) (.trans (.new (s.eg.trans (Ex.new hd)) (by rw [upd_ne hne.symm]; exact hx)) (.trans (.new (ex_upd2 (s.eg.trans (Ex.new hd))) ?_) (.wr (u := .lst (ss.map fun x => V.ref x.1)) (ex_upd2 (ex_upd2 (s.eg.trans (Ex.new hd)))) ?_))))
      · rw [upd_ne hmx, upd_ne hmd]
        exact hm
      · rw [upd_ne n3, upd_ne n1]
        exact h.gs
    have e1 : (ss.map fun x => V.ref x.1) ++ [.ref x] = (ss ++ [(x, ml)]).map fun x => V.ref x.1 := by
      rw [List.map_append]
      rfl
    have hr2 := h.addS (q := ⟨n, e, 0, [-1]⟩) (x := x) (ml := ml) (d := d) (fresh_back s.eg hx) (fresh_back s.eg hm) hmx
    rw [e1] at m ⊢
    exact q _ _ m ⟨dx, pl, sl, ps, _, hr2⟩
end
end Sk
/-! part W14 -/
namespace Sk
open PySem PySem.Spec PyProof.Rows L2 Evl
section
variable {K : PySem.W.Frag} {mg : Str → Option Value} {C : Cs} {vs : List V} {H : Hp} {Q : VK} {E : XK}
theorem modify_set {α : Type} {l : List α} {i : Nat} {x : α} (f : α → α) (h : l[i]? = some x) : l.modify i f = l.set i (f x) := by
  refine List.ext_getElem? fun j => ?_
  rw [List.getElem?_modify]
  by_cases hj : i = j
  · subst hj
    rw [h, List.getElem?_set_self (get_of h rfl)]
    show some (if i = i then f x else x) = _
    rw [if_pos rfl]
  · rw [List.getElem?_set_ne hj]
    cases l[j]? with
    | none => rfl
    | some y =>
      show some (if i = j then f y else y) = _
      rw [if_neg hj]
theorem rd_Room_mend (T : Txt K mg C) (h : sp_Room_mend K C vs H Q E) : t_Room_mend K C { nx := fun _ H' => Q .non H', rt := Q } (start N_Room_mend vs) H := by
  obtain ⟨a, r, i, us, G, F, rfl, s, hr, hu, ⟨hi, hnow⟩, q⟩ := h
  obtain ⟨dx, pl, sl, ps, ss, h⟩ := hr.ex
  obtain ⟨y, rfl, hy⟩ := hu.inv1
  have ey : y = .int (i : Int) := hy
  subst ey
  obtain ⟨x, hx⟩ := get_ex (l := ss) (by rw [h.ns]; exact hi)
  obtain ⟨se, hse⟩ := get_ex hi
  obtain ⟨⟨d, g1⟩, g2⟩ := h.se i se x hse hx
  obtain ⟨xa, _, _, _, _, _⟩ := h.sa hx
  have hat : atI (ss.map fun x => V.ref x.1) (i : Int) = some (V.ref x.1) := atI_nat (by rw [List.getElem?_map, hx]; rfl)
  refine ⟨_, rfl, a, C.R, dx, _, _, rfl, s.eg a _ h.ro, T.clR, T.nR_sensors, roF_sensors, _, rfl, sl, _, (i : Int), V.ref x.1, rfl, rfl, sq_of (s.eg sl _ h.gs), hat, ?_⟩
  refine ⟨_, rfl, a, C.R, dx, _, _, rfl, s.eg a _ h.ro, T.clR, T.nR_now, roF_now, (r.now : Int), 1, rfl, rfl, ?_⟩
  refine ⟨_, rfl, x.1, C.S, d, _, rfl, s.eg x.1 _ g1, T.clS, T.nS_first, (by show 4 < 1000; decide), ?_⟩
  have e1 : (r.now : Int) + 1 = ((r.now + 1 : Nat) : Int) := by omega
  have e3 : putF ("first" : Str) ((fun i j : Int => V.int (i + j)) (r.now : Int) 1) (seF se x.2) = seF { se with first := r.now + 1 } x.2 := by
    show putF ("first" : Str) (V.int ((r.now : Int) + 1)) _ = _
    rw [e1, putS_first]
  rw [e3]
  refine ⟨(by show 1 ≤ sizeLine; decide), fun p hp => ?_⟩
  have np : p ≠ x.1 := fun e => by
    rw [e, upd_same] at hp
    cases hp
  rw [upd_ne np] at hp
  have npa : a ≠ p := ne_of_none (s.eg a _ h.ro) hp
  refine ⟨_, rfl, a, C.R, dx, roF r pl sl, _, rfl, ?_, T.clR, T.nR_now, roF_now, (r.now : Int), 1, rfl, rfl, ?_⟩
  · rw [upd_ne npa, upd_ne xa.symm]
    exact s.eg a _ h.ro
  refine ⟨p, ((r.now + 1 : Nat) : Int), [.int (-1)], rfl, (by rw [← e1]), upd_same, by omega, by omega, ?_, fun p2 hp2 => ?_⟩
  · show 1 * (r.now + 1) ≤ sizeLine
    exact Nat.le_trans (by omega : 1 * (r.now + 1) ≤ 100000) (by decide)
  have np2 : p2 ≠ p := fun e => by
    rw [e, upd_same] at hp2
    cases hp2
  have np2x : p2 ≠ x.1 := fun e => by
    rw [e, upd_ne np.symm, upd_same] at hp2
    cases hp2
  rw [upd_ne np2, upd_ne np2x] at hp2
  refine ⟨_, rfl, x.1, C.S, d, seF { se with first := r.now + 1 } x.2, rfl, ?_, T.clS, T.nS_readings, (by show 4 < 1000; decide), ?_⟩
  · rw [upd_ne np2x.symm, upd_ne np.symm, upd_same]
  rw [putS_readings]
  have em : Mi.mended r i = { r with sensors := r.sensors.set i ⟨se.prop, se.error, r.now + 1, List.replicate (r.now + 1) (-1)⟩ } := by
    show { r with sensors := r.sensors.modify i fun x => { x with first := r.now + 1, readings := List.replicate (r.now + 1) (-1) } } = _
    rw [modify_set _ hse]
  have ev : (List.replicate (((r.now + 1 : Nat) : Int)).toNat [V.int (-1)]).flatten = (List.replicate (r.now + 1) (-1 : Int)).map V.int := by
    rw [Int.toNat_natCast, List.map_replicate]
    generalize r.now + 1 = n
    induction n with
    | zero => rfl
    | succ n ih => rw [List.replicate_succ, List.replicate_succ, List.flatten_cons, ih]; rfl
  have hr2 := h.mend (q' := ⟨se.prop, se.error, r.now + 1, List.replicate (r.now + 1) (-1)⟩) (d := d) hse hx (fresh_back s.eg hp2)
  have hL : ∀ c o, G c = some o → c ≠ x.1 → upd (upd (upd (upd H x.1 (.ins C.S d (seF { se with first := r.now + 1 } x.2))) p (.lst [.int (-1)])) p2 (.lst ((List.replicate (r.now + 1) (-1 : Int)).map V.int))) x.1 (.ins C.S d (seF { se with first := r.now + 1 } p2)) c = some o := fun c o hc hne => by
    have hH := s.eg c o hc
    rw [upd_ne hne, upd_ne (ne_of_none hH hp2), upd_ne (ne_of_none hH hp), upd_ne hne]
    exact hH
  refine q (upd (upd G p2 (.lst ((List.replicate (r.now + 1) (-1 : Int)).map V.int))) x.1 (.ins C.S d (seF { se with first := r.now + 1 } p2))) _ ⟨fun c o hc => ?_, fun c o hn hc => ?_, fun c hn hc => ?_⟩ ?_
  · rw [ev]
    by_cases h1 : c = x.1
    · subst h1
      rw [upd_same] at hc ⊢
      exact hc
    · rw [upd_ne h1] at hc
      by_cases h2 : c = p2
      · subst h2
        rw [upd_same] at hc
        rw [upd_ne h1, upd_same]
        exact hc
      · rw [upd_ne h2] at hc
        exact hL c o hc h1
  · have h1 : c ≠ x.1 := fun e => by
      rw [e, g1] at hn
      cases hn
    rw [upd_ne h1, upd_ne (ne_of_none hc hp2), upd_ne (ne_of_none hc hp), upd_ne h1]
    exact hc
  · have h1 : c ≠ x.1 := fun e => by
      rw [e, g1] at hn
      cases hn
    rw [upd_ne h1, upd_ne fun e => hc (by rw [e]; exact hp2)]
    exact hn
  · show RoomAt _ _ _ (Mi.mended r i)
    rw [em]
    exact ⟨dx, pl, sl, ps, _, hr2⟩
def ZI {α β : Type} (f : α → β → α) (l : List α) (ms : List β) (k : Nat) (P : List α) : Prop := P.length = l.length ∧ ∀ j q m, l[j]? = some q → ms[j]? = some m → P[j]? = some (if j < k then f q m else q)
theorem zi_start {α β : Type} {f : α → β → α} {l : List α} {ms : List β} : ZI f l ms 0 l := ⟨rfl, fun j q m h _ => by rw [if_neg (Nat.not_lt_zero j)]; exact h⟩
theorem zi_at {α β : Type} {f : α → β → α} {l : List α} {ms : List β} {k : Nat} {P : List α} (h : ZI f l ms k P) {q : α} {m : β} (hq : l[k]? = some q) (hm : ms[k]? = some m) : P[k]? = some q := by
  rw [h.2 k q m hq hm, if_neg (Nat.lt_irrefl k)]
theorem zi_step {α β : Type} {f : α → β → α} {l : List α} {ms : List β} {k : Nat} {P : List α} (h : ZI f l ms k P) {q : α} {m : β} (hq : l[k]? = some q) (hm : ms[k]? = some m) : ZI f l ms (k + 1) (P.set k (f q m)) := by
  refine ⟨by rw [List.length_set]; exact h.1, fun j q' m' h1 h2 => ?_⟩
  by_cases hj : k = j
  · subst hj
    rw [hq] at h1
    rw [hm] at h2
    cases h1
    cases h2
    rw [List.getElem?_set_self (by rw [h.1]; exact get_of hq rfl), if_pos (Nat.lt_succ_self k)]
  · rw [List.getElem?_set_ne hj, h.2 j q' m' h1 h2]
    by_cases h3 : j < k
    · rw [if_pos h3, if_pos (by omega)]
    · rw [if_neg h3, if_neg (by omega)]
theorem zi_done {α β : Type} {f : α → β → α} {l : List α} {ms : List β} {P : List α} (h : ZI f l ms l.length P) (hl : l.length = ms.length) : P = (l.zip ms).map fun x => f x.1 x.2 := by
  refine List.ext_getElem? fun j => ?_
  rw [List.getElem?_map]
  by_cases hj : j < l.length
  · have h1 : l[j]? = some l[j] := List.getElem?_eq_getElem hj
    have h2 : ms[j]? = some (ms[j]'(by omega)) := List.getElem?_eq_getElem (by omega)
    have h3 : (l.zip ms)[j]? = some (l[j], ms[j]'(by omega)) := List.getElem?_zip_eq_some.mpr ⟨h1, h2⟩
    rw [h3, h.2 j _ _ h1 h2, if_pos hj]
    rfl
  · rw [List.getElem?_eq_none (by rw [h.1]; omega), List.getElem?_eq_none (by rw [List.length_zip]; omega)]
    rfl
theorem map_at {α β : Type} {f : α → β} {l : List α} {k : Nat} {y : β} (h : (l.map f)[k]? = some y) : ∃ x, l[k]? = some x ∧ y = f x := by
  rw [List.getElem?_map] at h
  obtain ⟨x, h1, h2⟩ := Option.map_eq_some_iff.mp h
  exact ⟨x, h1, h2.symm⟩
def exP (q : Mi.Pr) (m : Int) : Mi.Pr := { q with moves := q.moves ++ [m] }
def exS (q : Mi.Se) (m : Int) : Mi.Se := { q with readings := q.readings ++ [m] }
theorem loop_moves (T : Txt K mg C) {σ : L2.St} {D : Ends} {G F : Hp} {a dx pl sl : Addr} {ps ss : List (Addr × Addr)} {r : Mi.Ro} {ms : List Int} {y : V} (s : Su G F H) (h : RoomL C G a r dx pl sl ps ss) (h0 : σ[0]? = some (some (.ref a))) (hy : σ[1]? = some (some y)) (hF : (dInts K ms).p F y)
    (hσ : σ.length = 7) (hl : ms.length = r.props.length) (hmv : ∀ q ∈ r.props, q.moves.length < 1000)
    (q : ∀ y3 y4 G2 H2, Mut G H G2 H2 → RoomL C G2 a { r with props := (r.props.zip ms).map fun x => exP x.1 x.2 } dx pl sl ps ss → D.nx ((σ.set 3 y3).set 4 y4) H2) :
    (tFor (iZip K (tCons (tFld K (tVar 0) "props") (tCons (tVar 1) tNil))) (gTup K 2 (gCons (gName 3) (gCons (gName 4) gNil))) (tDrop (tBM K "list" rAppend (tFld K (tVar 3) "moves") (tCons (tVar 4) tNil)))) D σ H := by
  obtain ⟨b, ys, rfl, hb, hys⟩ := hF
  have eys := All2.vals _ ms hys
  subst eys
  have hln : (ps.map fun x => V.ref x.1).length = r.props.length := by rw [List.length_map, h.np]
  refine ⟨_, h0, a, C.R, dx, _, _, rfl, s.eg a _ h.ro, T.clR, T.nR_props, roF_props, _, hy, pl, b, _, _, rfl, sq_of (s.eg pl _ h.gp), ex_l s.ef hb, ?_⟩
  refine RZ.for_zipL (K := K) (a := pl) (b := b) (xs := ps.map fun x => V.ref x.1) (ys := ms.map V.int) (by rw [hln, List.length_map]; exact hl.symm)
    (fun k σ' H' => ∃ y3 y4 G' P, σ' = (σ.set 3 y3).set 4 y4 ∧ Mut G H G' H' ∧ RoomL C G' a { r with props := P } dx pl sl ps ss ∧ ZI exP r.props ms k P) ?_ ?_ ?_ ?_
  · obtain ⟨y3, y4, e⟩ := set2_self (σ := σ) (i := 3) (j := 4)
    exact ⟨y3, y4, G, r.props, e, Mut.refl s.eg, h, zi_start⟩
  · rintro k σ' H' ⟨y3, y4, G', P, _, m, h', _⟩
    exact ⟨sq_of (m.gh pl _ h'.gp), ex_l (s.mut m).ef hb⟩
  · rintro k x z W σ' H' hx hz ⟨y3, y4, G', P, rfl, m, h', zi⟩ hW
    obtain ⟨x, hx1, rfl⟩ := map_at hx
    obtain ⟨z, hz1, rfl⟩ := map_at hz
    obtain ⟨q0, hq0⟩ := get_ex (l := r.props) (by rw [← hl]; exact get_of hz1 rfl)
    have hPk := zi_at zi hq0 hz1
    obtain ⟨⟨d, g1⟩, g2⟩ := h'.pr k q0 x hPk hx1
    have e1 : Ex G' (upd H' W (.tup [V.ref x.1, V.int z])) := m.gh.trans (Ex.new hW)
    refine tg_two (K := K) (i := 3) (j := 4) rfl (st_of upd_same) _ (Ex.refl _) _ ?_
    rw [set_two (by decide)]
    have s3 : ((σ.set 3 (some (V.ref x.1))).set 4 (some (V.int z)))[3]? = some (some (V.ref x.1)) := by
      rw [List.getElem?_set_ne (by decide), List.getElem?_set_self (by rw [hσ]; decide)]
    have s4 : ((σ.set 3 (some (V.ref x.1))).set 4 (some (V.int z)))[4]? = some (some (V.int z)) := List.getElem?_set_self (by rw [List.length_set, hσ]; decide)
    have g2' := e1 x.2 _ g2
    refine ⟨_, s3, x.1, C.P, d, _, _, rfl, e1 x.1 _ g1, T.clP, T.nP_moves, prF_moves, Or.inl ⟨rfl, _, sq_of g2'⟩, _, s4, x.2, _, _, rfl, rfl, g2', ?_, ?_⟩
    · rw [List.length_map]
      exact Nat.lt_of_lt_of_le (hmv q0 (List.mem_of_getElem? hq0)) (by decide)
    · have e2 : q0.moves.map V.int ++ [V.int z] = (q0.moves ++ [z]).map V.int := by
        rw [List.map_append]
        rfl
      rw [e2]
      refine ⟨_, _, _, _, rfl, m.trans (.less (Ex.new hW) (.wr e1 g2)), ?_, zi_step zi hq0 hz1⟩
      exact h'.move hPk hx1 z
  · rintro σ' H' ⟨y3, y4, G', P, rfl, m, h', zi⟩
    rw [hln] at zi
    rw [zi_done zi hl.symm] at h'
    exact q y3 y4 G' H' m h'
theorem loop_reads (T : Txt K mg C) {σ : L2.St} {D : Ends} {G F : Hp} {a dx pl sl : Addr} {ps ss : List (Addr × Addr)} {r : Mi.Ro} {ms : List Int} {y : V} (s : Su G F H) (h : RoomL C G a r dx pl sl ps ss) (h0 : σ[0]? = some (some (.ref a))) (hy : σ[2]? = some (some y)) (hF : (dInts K ms).p F y)
    (hσ : σ.length = 7) (hl : ms.length = r.sensors.length) (hmv : ∀ q ∈ r.sensors, q.readings.length < 1000)
    (q : ∀ y3 y4 G2 H2, Mut G H G2 H2 → RoomL C G2 a { r with sensors := (r.sensors.zip ms).map fun x => exS x.1 x.2 } dx pl sl ps ss → D.nx ((σ.set 5 y3).set 6 y4) H2) :
    (tFor (iZip K (tCons (tFld K (tVar 0) "sensors") (tCons (tVar 2) tNil))) (gTup K 2 (gCons (gName 5) (gCons (gName 6) gNil))) (tDrop (tBM K "list" rAppend (tFld K (tVar 5) "readings") (tCons (tVar 6) tNil)))) D σ H := by
  obtain ⟨b, ys, rfl, hb, hys⟩ := hF
  have eys := All2.vals _ ms hys
  subst eys
  have hln : (ss.map fun x => V.ref x.1).length = r.sensors.length := by rw [List.length_map, h.ns]
  refine ⟨_, h0, a, C.R, dx, _, _, rfl, s.eg a _ h.ro, T.clR, T.nR_sensors, roF_sensors, _, hy, sl, b, _, _, rfl, sq_of (s.eg sl _ h.gs), ex_l s.ef hb, ?_⟩
  refine RZ.for_zipL (K := K) (a := sl) (b := b) (xs := ss.map fun x => V.ref x.1) (ys := ms.map V.int) (by rw [hln, List.length_map]; exact hl.symm)
    (fun k σ' H' => ∃ y3 y4 G' P, σ' = (σ.set 5 y3).set 6 y4 ∧ Mut G H G' H' ∧ RoomL C G' a { r with sensors := P } dx pl sl ps ss ∧ ZI exS r.sensors ms k P) ?_ ?_ ?_ ?_
  · obtain ⟨y3, y4, e⟩ := set2_self (σ := σ) (i := 5) (j := 6)
    exact ⟨y3, y4, G, r.sensors, e, Mut.refl s.eg, h, zi_start⟩
  · rintro k σ' H' ⟨y3, y4, G', P, _, m, h', _⟩
    exact ⟨sq_of (m.gh sl _ h'.gs), ex_l (s.mut m).ef hb⟩
  · rintro k x z W σ' H' hx hz ⟨y3, y4, G', P, rfl, m, h', zi⟩ hW
    obtain ⟨x, hx1, rfl⟩ := map_at hx
    obtain ⟨z, hz1, rfl⟩ := map_at hz
    obtain ⟨q0, hq0⟩ := get_ex (l := r.sensors) (by rw [← hl]; exact get_of hz1 rfl)
    have hPk := zi_at zi hq0 hz1
    obtain ⟨⟨d, g1⟩, g2⟩ := h'.se k q0 x hPk hx1
    have e1 : Ex G' (upd H' W (.tup [V.ref x.1, V.int z])) := m.gh.trans (Ex.new hW)
    refine tg_two (K := K) (i := 5) (j := 6) rfl (st_of upd_same) _ (Ex.refl _) _ ?_
    rw [set_two (by decide)]
    have s3 : ((σ.set 5 (some (V.ref x.1))).set 6 (some (V.int z)))[5]? = some (some (V.ref x.1)) := by
      rw [List.getElem?_set_ne (by decide), List.getElem?_set_self (by rw [hσ]; decide)]
    have s4 : ((σ.set 5 (some (V.ref x.1))).set 6 (some (V.int z)))[6]? = some (some (V.int z)) := List.getElem?_set_self (by rw [List.length_set, hσ]; decide)
    have g2' := e1 x.2 _ g2
    refine ⟨_, s3, x.1, C.S, d, _, _, rfl, e1 x.1 _ g1, T.clS, T.nS_readings, seF_readings, Or.inl ⟨rfl, _, sq_of g2'⟩, _, s4, x.2, _, _, rfl, rfl, g2', ?_, ?_⟩
    · rw [List.length_map]
      exact Nat.lt_of_lt_of_le (hmv q0 (List.mem_of_getElem? hq0)) (by decide)
    · have e2 : q0.readings.map V.int ++ [V.int z] = (q0.readings ++ [z]).map V.int := by
        rw [List.map_append]
        rfl
      rw [e2]
      refine ⟨_, _, _, _, rfl, m.trans (.less (Ex.new hW) (.wr e1 g2)), ?_, zi_step zi hq0 hz1⟩
      exact h'.read hPk hx1 z
  · rintro σ' H' ⟨y3, y4, G', P, rfl, m, h', zi⟩
    rw [hln] at zi
    rw [zi_done zi hl.symm] at h'
    exact q y3 y4 G' H' m h'
theorem rd_Room_step (T : Txt K mg C) (h : sp_Room_step K C vs H Q E) : t_Room_step K C { nx := fun _ H' => Q .non H', rt := Q } (start N_Room_step vs) H := by
  obtain ⟨a, r, ⟨ms, rs⟩, us, G, F, rfl, s, hr, hu, ⟨hk, hm, hs⟩, q⟩ := h
  obtain ⟨dx, pl, sl, ps, ss, h⟩ := hr.ex
  obtain ⟨y, z, rfl, hy, hz⟩ := hu.inv2
  have m1 := Mut.wr (o := .ins C.R dx (roF { r with now := r.now + 1 } pl sl)) s.eg h.ro
  have h1 := h.num (r' := { r with now := r.now + 1 }) rfl rfl
  have s1 := s.mut m1
  have hn := hk.now
  refine ⟨_, rfl, a, C.R, dx, _, _, rfl, s.eg a _ h.ro, T.clR, T.nR_now, roF_now, (r.now : Int), 1, rfl, rfl, dx, roF r pl sl, s.eg a _ h.ro, (by show 5 < 1000; decide), ?_⟩
  have e1 : putF ("now" : Str) (.int ((r.now : Int) + 1)) (roF r pl sl) = roF { r with now := r.now + 1 } pl sl := by
    have e : (r.now : Int) + 1 = ((r.now + 1 : Nat) : Int) := by omega
    rw [e, putR_now]
  rw [e1]
  refine loop_moves T s1 h1 rfl rfl hy rfl hm (fun q hq => ?_) fun y3 y4 G2 H2 m2 h2 => ?_
  · have := (hk.pr q hq).2.2
    omega
  refine loop_reads T (s1.mut m2) h2 rfl rfl hz rfl hs (fun q hq => ?_) fun y5 y6 G3 H3 m3 h3 => ?_
  · have := (hk.se q hq).2.2.2
    omega
  exact q G3 H3 ((m1.trans m2).trans m3) ⟨dx, pl, sl, ps, ss, h3⟩
end
end Sk
/-! part MiAct -/
namespace Mi
theorem filter_map_len {α β : Type} (f : α → β) (p : β → Bool) (q : α → Bool) (h : ∀ a, p (f a) = q a) : ∀ l : List α, ((l.map f).filter p).length = (l.filter q).length
  | [] => rfl
  | a :: l => by
    rw [List.map_cons, List.filter_cons, List.filter_cons, h a]
    cases q a with
    | true => exact congrArg (· + 1) (filter_map_len f p q h l)
    | false => exact filter_map_len f p q h l
theorem ok_fresh {m : Nat} (h : m ≤ 2) : Ok ⟨m, false, 0, [], []⟩ := ⟨Nat.zero_le _, h, Nat.zero_le _, Nat.zero_le _, fun _ => Nat.zero_le _, fun q h => by simp at h, fun q h => by simp at h⟩
theorem ok_prop {r : Ro} (h : Ok r) (hn : r.props.length < 4) (h0 : r.now = 0) {s : Nat} (h1 : 2 ≤ s) (h2 : s ≤ 8) : Ok { r with props := r.props ++ [⟨s, [-2]⟩] } :=
  ⟨h.now, h.most, by show (r.props ++ [_]).length ≤ 4; rw [List.length_append]; show _ + 1 ≤ 4; omega, h.ns, h.one, fun q hq => by
    rcases List.mem_append.mp hq with hq | hq
    · exact h.pr q hq
    · rw [List.mem_singleton.mp hq]
      exact ⟨h1, h2, by show 1 = r.now + 1; omega⟩, fun x hx => by
    obtain ⟨q1, q2⟩ := h.se x hx
    exact ⟨by show _ < (r.props ++ [_]).length; rw [List.length_append]; omega, q2⟩⟩
theorem sensors_app {r : Ro} {x : Se} {p : Nat} : sensorsOf { r with sensors := r.sensors ++ [x] } p = sensorsOf r p ++ (if x.prop = p then [x] else []) := by
  unfold sensorsOf
  rw [List.filter_append]
  by_cases h : x.prop = p
  · rw [if_pos h, List.filter_cons, if_pos (beq_iff_eq.mpr h)]
    rfl
  · rw [if_neg h, List.filter_cons, if_neg (by rw [beq_eq_false_iff_ne.mpr h]; exact Bool.noConfusion)]
    rfl
theorem ok_sensor {r : Ro} (h : Ok r) (hn : r.sensors.length < 8) (h0 : r.now = 0) {p e : Nat} (hp : p < r.props.length) (he : e ≤ 3) (h4 : (sensorsOf r p).length < 4) : Ok { r with sensors := r.sensors ++ [⟨p, e, 0, [-1]⟩] } :=
  ⟨h.now, h.most, h.np, by show (r.sensors ++ [_]).length ≤ 8; rw [List.length_append]; show _ + 1 ≤ 8; omega, fun q => by
    rw [sensors_app, List.length_append]
    have h1 := h.one q
    by_cases hq : p = q
    · subst hq
      rw [if_pos rfl]
      show _ + 1 ≤ 4
      omega
    · rw [if_neg hq]
      show _ + 0 ≤ 4
      omega, h.pr, fun x hx => by
    rcases List.mem_append.mp hx with hx | hx
    · exact h.se x hx
    · rw [List.mem_singleton.mp hx]
      exact ⟨hp, he, Nat.zero_le _, by show 1 = r.now + 1; omega⟩⟩
theorem ok_begun {r : Ro} (h : Ok r) (b : Bool) : Ok { r with begun := b } := ⟨h.now, h.most, h.np, h.ns, h.one, h.pr, h.se⟩
theorem ok_most {r : Ro} (h : Ok r) {m : Nat} (hm : m ≤ 2) : Ok { r with most := m } := ⟨h.now, hm, h.np, h.ns, h.one, h.pr, h.se⟩
theorem zip_fst {α β γ : Type} (f : α → γ) : ∀ (l : List α) (m : List β), l.length = m.length → (l.zip m).map (fun x => f x.1) = l.map f
  | [], _, _ => rfl
  | _ :: _, [], h => by cases h
  | a :: l, b :: m, h => by
    rw [List.zip_cons_cons, List.map_cons, List.map_cons, zip_fst f l m (by simpa using h)]
theorem ok_stepped {r : Ro} (h : Ok r) (hn : r.now < 24) {ms rs : List Int} (hm : ms.length = r.props.length) (hs : rs.length = r.sensors.length) : Ok (stepped r ms rs) := by
  have hz : ((r.props.zip ms).map fun x => ({ x.1 with moves := x.1.moves ++ [x.2] } : Pr)).length = r.props.length := by
    rw [List.length_map, List.length_zip]
    omega
  have hz2 : ((r.sensors.zip rs).map fun x => ({ x.1 with readings := x.1.readings ++ [x.2] } : Se)).length = r.sensors.length := by
    rw [List.length_map, List.length_zip]
    omega
  refine ⟨by show r.now + 1 ≤ 24; omega, h.most, by show List.length (List.map _ _) ≤ 4; rw [hz]; exact h.np, by show List.length (List.map _ _) ≤ 8; rw [hz2]; exact h.ns, fun p => ?_, fun q hq => ?_, fun x hx => ?_⟩
  · have e : (sensorsOf (stepped r ms rs) p).length = (sensorsOf r p).length := by
      unfold sensorsOf stepped
      show (List.filter _ (List.map _ _)).length = _
      rw [filter_map_len _ _ (fun x : Se × Int => x.1.prop == p) fun _ => rfl, ← filter_map_len (fun x : Se × Int => x.1) (fun x : Se => x.prop == p) (fun x : Se × Int => x.1.prop == p) fun _ => rfl]
      have e2 := zip_fst (fun x : Se => x) r.sensors rs hs.symm
      rw [List.map_id'] at e2
      rw [e2]
    rw [e]
    exact h.one p
  · obtain ⟨⟨q0, m⟩, hm0, rfl⟩ := List.mem_map.mp hq
    obtain ⟨h1, h2, h3⟩ := h.pr q0 (List.of_mem_zip hm0).1
    exact ⟨h1, h2, by show (q0.moves ++ [m]).length = r.now + 1 + 1; rw [List.length_append, h3]; rfl⟩
  · obtain ⟨⟨x0, m⟩, hm0, rfl⟩ := List.mem_map.mp hx
    obtain ⟨h1, h2, h3, h4⟩ := h.se x0 (List.of_mem_zip hm0).1
    exact ⟨by show x0.prop < List.length (List.map _ _); rw [hz]; exact h1, h2, by show x0.first ≤ r.now + 1 + 1; omega, by show (x0.readings ++ [m]).length = r.now + 1 + 1; rw [List.length_append, h4]; rfl⟩
theorem ok_mended {r : Ro} (h : Ok r) (i : Nat) : Ok (mended r i) := by
  by_cases hi : i < r.sensors.length
  · have hx : r.sensors[i]? = some r.sensors[i] := List.getElem?_eq_getElem hi
    have hmem := h.se _ (List.getElem_mem hi)
    have len : ∀ (l : List Se) (i : Nat) (p : Nat) (f : Se → Se), (∀ x, (f x).prop = x.prop) → ((l.modify i f).filter fun x => x.prop == p).length = (l.filter fun x => x.prop == p).length := fun l => by
      induction l with
      | nil => exact fun i p f _ => by cases i <;> rfl
      | cons a l ih =>
        intro i p f hf
        cases i with
        | zero =>
          rw [List.modify_zero_cons, List.filter_cons, List.filter_cons, hf a]
          cases a.prop == p <;> rfl
        | succ i =>
          rw [List.modify_succ_cons, List.filter_cons, List.filter_cons]
          cases a.prop == p with
          | true => exact congrArg (· + 1) (ih i p f hf)
          | false => exact ih i p f hf
    refine ⟨h.now, h.most, h.np, by show (r.sensors.modify i _).length ≤ 8; rw [List.length_modify]; exact h.ns, fun p => ?_, h.pr, fun x hx => ?_⟩
    · unfold sensorsOf mended
      show ((r.sensors.modify i _).filter _).length ≤ 4
      rw [len]
      · exact h.one p
      · exact fun _ => rfl
    · obtain ⟨j, hj⟩ := List.mem_iff_getElem?.mp hx
      have hj' : (fun a => if i = j then ({ a with first := r.now + 1, readings := List.replicate (r.now + 1) (-1) } : Se) else a) <$> r.sensors[j]? = some x := by
        rw [← List.getElem?_modify]
        exact hj
      obtain ⟨y, hy, rfl⟩ := Option.map_eq_some_iff.mp hj'
      obtain ⟨h1, h2, h3, h4⟩ := h.se y (List.mem_of_getElem? hy)
      by_cases e : i = j
      · rw [if_pos e]
        exact ⟨h1, h2, Nat.le_refl _, by show (List.replicate (r.now + 1) (-1 : Int)).length = _; rw [List.length_replicate]; rfl⟩
      · rw [if_neg e]
        exact ⟨h1, h2, h3, h4⟩
  · have e : mended r i = r := by
      unfold mended
      have : r.sensors.modify i (fun x => ({ x with first := r.now + 1, readings := List.replicate (r.now + 1) (-1) } : Se)) = r.sensors := by
        refine List.ext_getElem? fun j => ?_
        rw [List.getElem?_modify]
        by_cases e : i = j
        · subst e
          rw [List.getElem?_eq_none (by omega)]
          rfl
        · cases r.sensors[j]? with
          | none => rfl
          | some y =>
            show some (if i = j then _ else y) = _
            rw [if_neg e]
      rw [this]
    rw [e]
    exact h
end Mi
/-! part W15 -/
namespace Sk
open PySem PySem.Spec PyProof.Rows L2 Evl

/-! ### what changes the room and answers -/
def Dj (G F : Hp) : Prop := ∀ c, F c ≠ none → G c = none
theorem dj_r {G F : Hp} (d : Dj G F) : Ex F (join G F) := fun c o h => by
  unfold join
  rw [d c (some_ne h)]
  exact h
theorem Su.more {G F H H1 : Hp} (s : Su G F H) (e : Ex H H1) : Su G F H1 := ⟨s.eg.trans e, s.ef.trans e, s.dj⟩
theorem Su.j {G F H : Hp} (s : Su G F H) : Ex (join G F) H := join_in s.eg s.ef
structure Pst (G F H G2 G3 H2 : Hp) : Prop where
  m : Mut G H G2 H2
  e : Ex G3 H2
  n : ∀ c, G c = none → F c = none → H c ≠ none → G3 c = none
theorem Pst.less {G F H H1 G2 G3 H2 : Hp} (e : Ex H H1) (p : Pst G F H1 G2 G3 H2) : Pst G F H G2 G3 H2 := ⟨.less e p.m, p.e, fun c n1 n2 h => p.n c n1 n2 (ne_ex e h)⟩
theorem Pst.past {G F H G1 F1 H1 G2 G3 H2 : Hp} (m : Mut G H G1 H1) (f : ∀ c, F c = none → H c ≠ none → F1 c = none) (p : Pst G1 F1 H1 G2 G3 H2) : Pst G F H G2 G3 H2 :=
  ⟨m.trans p.m, p.e, fun c n1 n2 h => p.n c (m.nw c n1 h) (f c n2 h) (by
    cases e : H c with
    | none => exact (h e).elim
    | some o => exact some_ne (m.keep c o n1 e))⟩
def StU (ts : TS) (σ : L2.St) (C : Cs) (a : Addr) (G F : Hp) (res : Mi.Ro × List Int) : Prop :=
  ∀ (H : Hp) (D : Ends), Su G F H → (∀ v G2 G3 H2, Pst G F H G2 G3 H2 → RoomAt C G2 a res.1 → (dMI res.2).p G3 v → D.rt v H2) → ts D σ H
def dSp {α : Type} (C : Cs) (rep : α → List Rp) (ok : Mi.Ro → α → Prop) (f : Mi.Ro → α → Mi.Ro × List Int) : Sp := fun vs H Q _ => ∃ a r x us G F, vs = .ref a :: us ∧ Su G F H ∧ RoomAt C G a r ∧ Mi.Ok r ∧ All2 F (rep x) us ∧ ok r x ∧
  ∀ v G2 G3 H2, Pst G F H G2 G3 H2 → RoomAt C G2 a (f r x).1 → (dMI (f r x).2).p G3 v → Q v H2
theorem dSp_len {α : Type} {C : Cs} {rep : α → List Rp} {ok : Mi.Ro → α → Prop} {f : Mi.Ro → α → Mi.Ro × List Int} {n : Nat} (hn : ∀ a, (rep a).length = n) {vs : List V} {H : Hp} {Q : VK} {E : XK} (h : dSp C rep ok f vs H Q E) : vs.length = n + 1 := by
  obtain ⟨a, r, x, us, G, F, rfl, _, _, _, hu, _⟩ := h
  rw [List.length_cons, hu.length, hn]
theorem dSp_rd {α : Type} {C : Cs} {rep : α → List Rp} {ok : Mi.Ro → α → Prop} {f : Mi.Ro → α → Mi.Ro × List Int} {N : List Str} {t : TS} {vs : List V} {H : Hp} {Q : VK} {E : XK}
    (hb : ∀ a r x us G F, Dj G F → RoomAt C G a r → Mi.Ok r → All2 F (rep x) us → ok r x → StU t (start N (.ref a :: us)) C a G F (f r x)) (h : dSp C rep ok f vs H Q E) : t { nx := fun _ H' => Q .non H', rt := Q } (start N vs) H := by
  obtain ⟨a, r, x, us, G, F, rfl, s, hr, ho, hu, hk, q⟩ := h
  exact hb a r x us G F s.dj hr ho hu hk H _ s q
section
variable {K : PySem.W.Frag} {mg : Str → Option Value} {C : Cs} {σ : L2.St} {G F : Hp} {a : Addr} {r : Mi.Ro} {res : Mi.Ro × List Int} {ta tb te tx : TE} {tl : TA} {t u : TT} {ts tu tw : TS}
theorem su_if {b : Bool} (h : EvT t σ (join G F) b) (h1 : b = true → StU (tRet te) σ C a G F res) (h2 : b = false → StU tw σ C a G F res) : StU (tSeq (tIfS t (tRet te) tNext) tw) σ C a G F res := fun H D s q => h H s.j _ fun H1 e1 => by
  cases b with
  | true => exact h1 rfl H1 D (s.more e1) fun v G2 G3 H2 p hr hv => q v G2 G3 H2 (p.less e1) hr hv
  | false => exact h2 rfl H1 D (s.more e1) fun v G2 G3 H2 p hr hv => q v G2 G3 H2 (p.less e1) hr hv
theorem su_ret {l : List Int} (hr : RoomAt C G a r) (h : EvR te σ (join G F) (dMI l)) : StU (tRet te) σ C a G F (r, l) := fun H D s q => h H s.j _ fun v G3 H2 g hv =>
  q v G G3 H2 ⟨(Mut.refl s.eg).more g.hh, g.gh, fun c n1 n2 hc => g.nw c (by
    unfold join
    rw [n1]
    exact n2) hc⟩ hr hv
theorem su_no {n : Int} (hr : RoomAt C G a r) : StU (tRet (tLst (tCons (tUn (rU fun i => .int (-i)) (tC (.int n))) tNil))) σ C a G F (r, [-n]) := su_ret hr er_no
theorem su_call {α : Type} {rep : α → List Rp} {ok : Mi.Ro → α → Prop} {f : Mi.Ro → α → Mi.Ro × List Int} (hr : RoomAt C G a r) (ho : Mi.Ok r) (h0 : σ[0]? = some (some (.ref a))) (x : α) (h : EvAR tl σ F (rep x)) (hk : ok r x) {E : XK} : StU (tRet (tCall (dSp C rep ok f) [] E (tCons (tVar 0) tl))) σ C a G F (f r x) := fun H D s q =>
  ⟨_, h0, h H s.ef _ fun us F1 H1 g hu => ⟨a, r, x, us, G, F1, by rw [List.append_nil], s.grow g, hr, ho, hu, hk, fun v G2 G3 H2 p hr2 hv => q v G2 G3 H2 (p.past ((Mut.refl s.eg).more g.hh) g.nw) hr2 hv⟩⟩
theorem su_do {α : Type} {rep : α → List Rp} {ok : Mi.Ro → α → Prop} {f : Mi.Ro → α → Mi.Ro} {m : Str} (hr : RoomAt C G a r) (h0 : σ[0]? = some (some (.ref a))) (hm : ∀ pl sl, (roF r pl sl).lookup m = none) (x : α) (h : EvAR tl σ F (rep x)) (hk : ok r x) {E : XK}
    (k : ∀ G2 F1, Dj G2 F1 → RoomAt C G2 a (f r x) → StU tw σ C a G2 F1 res) : StU (tSeq (tDrop (tMeth C.R m (mutSp C rep ok f) [] E (tVar 0) tl)) tw) σ C a G F res := fun H D s q => by
  obtain ⟨dx, pl, sl, ps, ss, h'⟩ := hr.ex
  refine ⟨_, h0, a, dx, _, rfl, s.eg a _ h'.ro, hm pl sl, h H s.ef _ fun us F1 H1 g hu => ⟨a, r, x, us, G, F1, by rw [List.append_nil], s.grow g, hr, hu, hk, fun G2 H2 mu hr2 => ?_⟩⟩
  have s2 := (s.grow g).mut mu
  exact k G2 F1 s2.dj hr2 H2 D s2 fun v G3 G4 H3 p hr3 hv => q v G3 G4 H3 (p.past (.less g.hh mu) fun c n hc => g.nw c n hc) hr3 hv
theorem rep_j (hr : RoomAt C G a r) : (dRo K C r).p (join G F) (.ref a) := Rp.mono _ (join_l G F) hr.rep
theorem lk_no : ∀ (fs : List (Str × V)) (m : Str), (fs.all fun x => !(m == x.1)) = true → fs.lookup m = none
  | [], _, _ => rfl
  | (f, v) :: fs, m, h => by
    rw [List.all_cons, Bool.and_eq_true] at h
    have e : (m == f) = false := by
      cases q : m == f with
      | false => rfl
      | true =>
        have := h.1
        rw [show ((f, v) : Str × V).1 = f from rfl, q] at this
        cases this
    rw [List.lookup, e]
    exact lk_no fs m h.2
end
end Sk
/-! part W16 -/
namespace Sk
open PySem PySem.Spec PyProof.Rows L2 Evl
def sp_do_begin (K : PySem.W.Frag) (C : Cs) : Sp := dSp C (fun (n : Int) => [dI n]) (fun _ _ => True) Mi.doBegin
def sp_do_prop (K : PySem.W.Frag) (C : Cs) : Sp := dSp C (fun (n : Int) => [dI n]) (fun _ _ => True) Mi.doProp
def sp_do_sensor (K : PySem.W.Frag) (C : Cs) : Sp := dSp C (fun (x : Int × Int) => [dI x.1, dI x.2]) (fun _ _ => True) fun r x => Mi.doSensor r x.1 x.2
def sp_do_go (K : PySem.W.Frag) (C : Cs) : Sp := dSp C (fun (_ : Unit) => []) (fun _ _ => True) fun r _ => Mi.doGo r
def sp_do_tick (K : PySem.W.Frag) (C : Cs) : Sp := dSp C (fun (x : List Int × List Int) => [dInts K x.1, dInts K x.2]) (fun _ _ => True) fun r x => Mi.doTick r x.1 x.2
def sp_do_mend (K : PySem.W.Frag) (C : Cs) : Sp := dSp C (fun (n : Int) => [dI n]) (fun _ _ => True) Mi.doMend
def sp_do_allow (K : PySem.W.Frag) (C : Cs) : Sp := dSp C (fun (n : Int) => [dI n]) (fun _ _ => True) Mi.doAllow
abbrev s_do_begin : Stmt := top 55
abbrev N_do_begin : List Str := ["room", "most"]
def t_do_begin (K : PySem.W.Frag) (C : Cs) : TS :=
  (tSeq (tIfS (tNot (tTest (tChain (rI0 fun i j => .bl (decide (i ≤ j))) (rI0 fun i j => .bl (decide (i ≤ j))) (tC (.int 0)) (tVar 1) (tC (.int 2))))) (tRet (tLst (tCons (tUn (rU fun i => .int (-i)) (tC (.int 1))) tNil))) tNext)
    (tSeq (tDrop (tMeth C.R "begin" (sp_Room_begin K C) [] E0 (tVar 0) (tCons (tVar 1) tNil)))
    (tRet (tLst (tCons (tC (.int 0)) tNil)))))
abbrev s_do_prop : Stmt := top 56
abbrev N_do_prop : List Str := ["room", "size"]
def t_do_prop (K : PySem.W.Frag) (C : Cs) : TS :=
  (tSeq (tIfS (tNot (tTest (tChain (rI0 fun i j => .bl (decide (i ≤ j))) (rI0 fun i j => .bl (decide (i ≤ j))) (tC (.int 2)) (tVar 1) (tC (.int 8))))) (tRet (tLst (tCons (tUn (rU fun i => .int (-i)) (tC (.int 1))) tNil))) tNext)
    (tSeq (tIfS (tB (tFld K (tVar 0) "begun")) (tRet (tLst (tCons (tUn (rU fun i => .int (-i)) (tC (.int 3))) tNil))) tNext)
    (tSeq (tIfS (tTest (tOp rEq (tCB (rLenS K) (tCons (tFld K (tVar 0) "props") tNil)) (tC (.int (4))))) (tRet (tLst (tCons (tUn (rU fun i => .int (-i)) (tC (.int 5))) tNil))) tNext)
    (tSeq (tDrop (tMeth C.R "add_prop" (sp_Room_add_prop K C) [] E0 (tVar 0) (tCons (tVar 1) tNil)))
    (tRet (tLst (tCons (tC (.int 0)) (tCons (tOp (rI0 fun i j => .int (i - j)) (tCB (rLenS K) (tCons (tFld K (tVar 0) "props") tNil)) (tC (.int 1))) tNil))))))))
abbrev s_do_sensor : Stmt := top 57
abbrev N_do_sensor : List Str := ["room", "prop", "error"]
def t_do_sensor (K : PySem.W.Frag) (C : Cs) : TS :=
  (tSeq (tIfS (tOr (tNot (tB (tCall (sp_is_prop K C) [] E0 (tCons (tVar 0) (tCons (tVar 1) tNil))))) (tNot (tTest (tChain (rI0 fun i j => .bl (decide (i ≤ j))) (rI0 fun i j => .bl (decide (i ≤ j))) (tC (.int 0)) (tVar 2) (tC (.int 3)))))) (tRet (tLst (tCons (tUn (rU fun i => .int (-i)) (tC (.int 1))) tNil))) tNext)
    (tSeq (tIfS (tB (tFld K (tVar 0) "begun")) (tRet (tLst (tCons (tUn (rU fun i => .int (-i)) (tC (.int 3))) tNil))) tNext)
    (tSeq (tIfS (tOr (tTest (tOp rEq (tCB (rLenS K) (tCons (tFld K (tVar 0) "sensors") tNil)) (tC (.int (8))))) (tTest (tOp rEq (tCB (rLenS K) (tCons (tCall (sp_sensors_of K C) [] E0 (tCons (tVar 0) (tCons (tVar 1) tNil))) tNil)) (tC (.int (4)))))) (tRet (tLst (tCons (tUn (rU fun i => .int (-i)) (tC (.int 5))) tNil))) tNext)
    (tSeq (tDrop (tMeth C.R "add_sensor" (sp_Room_add_sensor K C) [] E0 (tVar 0) (tCons (tVar 1) (tCons (tVar 2) tNil))))
    (tRet (tLst (tCons (tC (.int 0)) (tCons (tOp (rI0 fun i j => .int (i - j)) (tCB (rLenS K) (tCons (tFld K (tVar 0) "sensors") tNil)) (tC (.int 1))) tNil))))))))
abbrev s_do_go : Stmt := top 58
abbrev N_do_go : List Str := ["room"]
def t_do_go (K : PySem.W.Frag) (C : Cs) : TS :=
  (tSeq (tIfS (tB (tFld K (tVar 0) "begun")) (tRet (tLst (tCons (tUn (rU fun i => .int (-i)) (tC (.int 3))) tNil))) tNext)
    (tSeq (tIfS (tTest (tOp rEq (tCB (rLenS K) (tCons (tFld K (tVar 0) "props") tNil)) (tC (.int 0)))) (tRet (tLst (tCons (tUn (rU fun i => .int (-i)) (tC (.int 4))) tNil))) tNext)
    (tSeq (tDrop (tMeth C.R "go" (sp_Room_go K C) [] E0 (tVar 0) tNil))
    (tRet (tLst (tCons (tC (.int 0)) tNil))))))
abbrev s_do_tick : Stmt := top 61
abbrev N_do_tick : List Str := ["room", "moves", "readings"]
def t_do_tick (K : PySem.W.Frag) (C : Cs) : TS :=
  (tSeq (tIfS (tOr (tNot (tB (tCall (sp_moves_are_right K C) [] E0 (tCons (tVar 0) (tCons (tVar 1) tNil))))) (tNot (tB (tCall (sp_readings_are_right K C) [] E0 (tCons (tVar 0) (tCons (tVar 2) tNil)))))) (tRet (tLst (tCons (tUn (rU fun i => .int (-i)) (tC (.int 1))) tNil))) tNext)
    (tSeq (tIfS (tNot (tB (tFld K (tVar 0) "begun"))) (tRet (tLst (tCons (tUn (rU fun i => .int (-i)) (tC (.int 3))) tNil))) tNext)
    (tSeq (tIfS (tTest (tOp rEq (tFld K (tVar 0) "now") (tC (.int (24))))) (tRet (tLst (tCons (tUn (rU fun i => .int (-i)) (tC (.int 5))) tNil))) tNext)
    (tSeq (tDrop (tMeth C.R "step" (sp_Room_step K C) [] E0 (tVar 0) (tCons (tVar 1) (tCons (tVar 2) tNil))))
    (tRet (tLst (tCons (tC (.int 0)) (tCons (tFld K (tVar 0) "now") (tCons (tIf (tB (tCall (sp_can_be K C) [] E0 (tCons (tVar 0) tNil))) (tC (.int 1)) (tC (.int 0))) tNil)))))))))
abbrev s_do_mend : Stmt := top 62
abbrev N_do_mend : List Str := ["room", "sensor"]
def t_do_mend (K : PySem.W.Frag) (C : Cs) : TS :=
  (tSeq (tIfS (tNot (tB (tCall (sp_is_sensor K C) [] E0 (tCons (tVar 0) (tCons (tVar 1) tNil))))) (tRet (tLst (tCons (tUn (rU fun i => .int (-i)) (tC (.int 1))) tNil))) tNext)
    (tSeq (tIfS (tNot (tB (tFld K (tVar 0) "begun"))) (tRet (tLst (tCons (tUn (rU fun i => .int (-i)) (tC (.int 3))) tNil))) tNext)
    (tSeq (tDrop (tMeth C.R "mend" (sp_Room_mend K C) [] E0 (tVar 0) (tCons (tVar 1) tNil)))
    (tRet (tLst (tCons (tC (.int 0)) tNil))))))
abbrev s_do_allow : Stmt := top 63
abbrev N_do_allow : List Str := ["room", "most"]
def t_do_allow (K : PySem.W.Frag) (C : Cs) : TS :=
  (tSeq (tIfS (tNot (tTest (tChain (rI0 fun i j => .bl (decide (i ≤ j))) (rI0 fun i j => .bl (decide (i ≤ j))) (tC (.int 0)) (tVar 1) (tC (.int 2))))) (tRet (tLst (tCons (tUn (rU fun i => .int (-i)) (tC (.int 1))) tNil))) tNext)
    (tSeq (tDrop (tMeth C.R "allow" (sp_Room_allow K C) [] E0 (tVar 0) (tCons (tVar 1) tNil)))
    (tRet (tLst (tCons (tC (.int 0)) tNil)))))
section
variable {K : PySem.W.Frag} {C : Cs} {vs : List V} {H : Hp} {Q : VK} {E : XK}
theorem len_do_begin (h : sp_do_begin K C vs H Q E) : vs.length = 2 := dSp_len (n := 1) (by intro _; rfl) h
theorem len_do_prop (h : sp_do_prop K C vs H Q E) : vs.length = 2 := dSp_len (n := 1) (by intro _; rfl) h
theorem len_do_sensor (h : sp_do_sensor K C vs H Q E) : vs.length = 3 := dSp_len (n := 2) (by intro _; rfl) h
theorem len_do_go (h : sp_do_go K C vs H Q E) : vs.length = 1 := dSp_len (n := 0) (by intro _; rfl) h
theorem len_do_tick (h : sp_do_tick K C vs H Q E) : vs.length = 3 := dSp_len (n := 2) (by intro _; rfl) h
theorem len_do_mend (h : sp_do_mend K C vs H Q E) : vs.length = 2 := dSp_len (n := 1) (by intro _; rfl) h
theorem len_do_allow (h : sp_do_allow K C vs H Q E) : vs.length = 2 := dSp_len (n := 1) (by intro _; rfl) h
end
section
variable {K : PySem.W.Frag} {mg : Str → Option Value} {C : Cs} {vs : List V} {H : Hp} {Q : VK} {E : XK}
theorem andb {p q : Prop} [Decidable p] [Decidable q] (h : (decide p && decide q) = true) : p ∧ q := by
  rw [Bool.and_eq_true] at h
  exact ⟨of_decide_eq_true h.1, of_decide_eq_true h.2⟩
theorem nandb {p q : Prop} [Decidable p] [Decidable q] (h : (!(decide p && decide q)) = true) : ¬ (p ∧ q) := fun e => by
  rw [decide_eq_true e.1, decide_eq_true e.2] at h
  cases h
theorem er_zero {σ : L2.St} {G : Hp} : EvR (tLst (tCons (tC (.int 0)) tNil)) σ G (dMI [0]) := er_lst (Rs := [dI 0]) (ear_cons (er_v ev_c) ear_nil) (by show 1 ≤ 100000; decide)
theorem er_two {σ : L2.St} {G : Hp} {te : TE} {n : Int} (h : Ev te σ G (.int n)) : EvR (tLst (tCons (tC (.int 0)) (tCons te tNil))) σ G (dMI [0, n]) := er_lst (Rs := [dI 0, dI n]) (ear_cons (er_v ev_c) (ear_cons (er_v h) ear_nil)) (by show 2 ≤ 100000; decide)
theorem rd_do_begin (T : Txt K mg C) (h : sp_do_begin K C vs H Q E) : t_do_begin K C { nx := fun _ H' => Q .non H', rt := Q } (start N_do_begin vs) H := by
  refine dSp_rd (fun a r n us G F dj hr ho hu hk => ?_) h
  obtain ⟨x, rfl, rfl⟩ := hu.inv1
  unfold Mi.doBegin
  refine su_if (et_not (et_test (ev_chain ev_c (ev_var rfl) ev_c))) (fun h => ?_) fun h => ?_
  · rw [if_neg (nandb h)]
    exact su_no hr
  have h1 := andb (nb_f h)
  rw [if_pos h1]
  obtain ⟨m, rfl⟩ : ∃ k : Nat, n = (k : Int) := ⟨n.toNat, by omega⟩
  refine su_do hr rfl (fun _ _ => lk_no _ _ (by rfl)) m (ear_cons (er_var rfl rfl) ear_nil) trivial fun G2 F1 dj2 hr2 => ?_
  exact su_ret hr2 er_zero
theorem rd_do_allow (T : Txt K mg C) (h : sp_do_allow K C vs H Q E) : t_do_allow K C { nx := fun _ H' => Q .non H', rt := Q } (start N_do_allow vs) H := by
  refine dSp_rd (fun a r n us G F dj hr ho hu hk => ?_) h
  obtain ⟨x, rfl, rfl⟩ := hu.inv1
  unfold Mi.doAllow
  refine su_if (et_not (et_test (ev_chain ev_c (ev_var rfl) ev_c))) (fun h => ?_) fun h => ?_
  · rw [if_neg (nandb h)]
    exact su_no hr
  have h1 := andb (nb_f h)
  rw [if_pos h1]
  obtain ⟨m, rfl⟩ : ∃ k : Nat, n = (k : Int) := ⟨n.toNat, by omega⟩
  refine su_do hr rfl (fun _ _ => lk_no _ _ (by rfl)) m (ear_cons (er_var rfl rfl) ear_nil) trivial fun G2 F1 dj2 hr2 => ?_
  exact su_ret hr2 er_zero
theorem rd_do_go (T : Txt K mg C) (h : sp_do_go K C vs H Q E) : t_do_go K C { nx := fun _ H' => Q .non H', rt := Q } (start N_do_go vs) H := by
  refine dSp_rd (fun a r n us G F dj hr ho hu hk => ?_) h
  cases hu
  unfold Mi.doGo
  refine su_if (et_B (ev_begun T (er_var rfl (rep_j hr)))) (fun h => ?_) fun h => ?_
  · rw [if_pos h]
    exact su_no hr
  rw [if_neg (by rw [h]; exact Bool.noConfusion)]
  refine su_if (et_test (ev_eq (ev_lenL (er_props T (er_var rfl (rep_j hr)))) ev_c)) (fun h => ?_) fun h => ?_
  · rw [if_pos (by have := of_decide_eq_true h; omega)]
    exact su_no hr
  rw [if_neg (by have := of_decide_eq_false h; omega)]
  refine su_do hr rfl (fun _ _ => lk_no _ _ (by rfl)) () ear_nil trivial fun G2 F1 dj2 hr2 => ?_
  exact su_ret hr2 er_zero
theorem rd_do_mend (T : Txt K mg C) (h : sp_do_mend K C vs H Q E) : t_do_mend K C { nx := fun _ H' => Q .non H', rt := Q } (start N_do_mend vs) H := by
  refine dSp_rd (fun a r n us G F dj hr ho hu hk => ?_) h
  obtain ⟨x, rfl, rfl⟩ := hu.inv1
  unfold Mi.doMend
  refine su_if (et_not (et_B (ca_is_sensor (ear_cons (er_var rfl (rep_j hr)) (ear_cons (er_var rfl rfl) ear_nil))))) (fun h => ?_) fun h => ?_
  · rw [if_pos (nb_t h)]
    exact su_no hr
  have h1 := nb_f h
  rw [if_neg (by rw [h1]; exact Bool.noConfusion)]
  refine su_if (et_not (et_B (ev_begun T (er_var rfl (rep_j hr))))) (fun h => ?_) fun h => ?_
  · rw [if_pos (nb_t h)]
    exact su_no hr
  rw [if_neg (by rw [nb_f h]; exact Bool.noConfusion)]
  obtain ⟨i, rfl, hi⟩ := Mi.isSensor_nat h1
  have hnow := ho.now
  refine su_do hr rfl (fun _ _ => lk_no _ _ (by rfl)) i (ear_cons (er_var rfl rfl) ear_nil) ⟨hi, by omega⟩ fun G2 F1 dj2 hr2 => ?_
  exact su_ret hr2 er_zero
theorem rd_do_prop (T : Txt K mg C) (h : sp_do_prop K C vs H Q E) : t_do_prop K C { nx := fun _ H' => Q .non H', rt := Q } (start N_do_prop vs) H := by
  refine dSp_rd (fun a r n us G F dj hr ho hu hk => ?_) h
  obtain ⟨x, rfl, rfl⟩ := hu.inv1
  unfold Mi.doProp
  refine su_if (et_not (et_test (ev_chain ev_c (ev_var rfl) ev_c))) (fun h => ?_) fun h => ?_
  · rw [if_pos (nandb h)]
    exact su_no hr
  have h1 := andb (nb_f h)
  rw [if_neg (fun q => q h1)]
  refine su_if (et_B (ev_begun T (er_var rfl (rep_j hr)))) (fun h => ?_) fun h => ?_
  · rw [if_pos h]
    exact su_no hr
  rw [if_neg (by rw [h]; exact Bool.noConfusion)]
  have hnp := ho.np
  refine su_if (et_test (ev_eq (ev_lenL (er_props T (er_var rfl (rep_j hr)))) ev_c)) (fun h => ?_) fun h => ?_
  · rw [if_pos (by have := of_decide_eq_true h; omega)]
    exact su_no hr
  rw [if_neg (by have := of_decide_eq_false h; omega)]
  obtain ⟨m, rfl⟩ : ∃ k : Nat, n = (k : Int) := ⟨n.toNat, by omega⟩
  refine su_do hr rfl (fun _ _ => lk_no _ _ (by rfl)) m (ear_cons (er_var rfl rfl) ear_nil) (by omega) fun G2 F1 dj2 hr2 => ?_
  refine su_ret hr2 (er_two (ev_eqv (ev_sub (ev_lenL (er_props T (er_var rfl (rep_j hr2)))) ev_c) ?_))
  show (((r.props ++ [_]).length : Nat) : Int) - 1 = _
  rw [List.length_append]
  show (((r.props.length + 1 : Nat)) : Int) - 1 = _
  omega
theorem rd_do_sensor (T : Txt K mg C) (h : sp_do_sensor K C vs H Q E) : t_do_sensor K C { nx := fun _ H' => Q .non H', rt := Q } (start N_do_sensor vs) H := by
  refine dSp_rd (fun a r ⟨p, e⟩ us G F dj hr ho hu hk => ?_) h
  obtain ⟨x, y, rfl, rfl, rfl⟩ := hu.inv2
  show StU _ _ C a G F (Mi.doSensor r p e)
  unfold Mi.doSensor
  refine su_if (et_or (et_not (et_B (ca_is_prop (ear_cons (er_var rfl (rep_j hr)) (ear_cons (er_var rfl rfl) ear_nil))))) fun _ => et_not (et_test (ev_chain ev_c (ev_var rfl) ev_c))) (fun h => ?_) fun h => ?_
  · rw [if_pos (fun ⟨q1, q2⟩ => by
      rw [q1, decide_eq_true q2.1, decide_eq_true q2.2] at h
      cases h)]
    exact su_no hr
  rw [Bool.or_eq_false_iff] at h
  have h1 := nb_f h.1
  have h2 := andb (nb_f h.2)
  rw [if_neg (fun q => q ⟨h1, h2⟩)]
  refine su_if (et_B (ev_begun T (er_var rfl (rep_j hr)))) (fun h => ?_) fun h => ?_
  · rw [if_pos h]
    exact su_no hr
  rw [if_neg (by rw [h]; exact Bool.noConfusion)]
  obtain ⟨n, rfl, hn⟩ := Mi.isProp_nat h1
  obtain ⟨m, rfl⟩ : ∃ k : Nat, e = (k : Int) := ⟨e.toNat, by omega⟩
  rw [Int.toNat_natCast, Int.toNat_natCast]
  have hns := ho.ns
  refine su_if (et_or (et_test (ev_eq (ev_lenL (er_sensors T (er_var rfl (rep_j hr)))) ev_c)) fun _ => et_test (ev_eq (ev_lenM (ca_sensors_of (ear_cons (er_var rfl (rep_j hr)) (ear_cons (er_var rfl rfl) ear_nil)) ho)) ev_c)) (fun h => ?_) fun h => ?_
  · rw [if_pos (by
      rw [Bool.or_eq_true] at h
      rcases h with h | h
      · have := of_decide_eq_true h
        exact .inl (by omega)
      · have := of_decide_eq_true h
        exact .inr (by omega))]
    exact su_no hr
  rw [Bool.or_eq_false_iff] at h
  have h3 := of_decide_eq_false h.1
  have h4 := of_decide_eq_false h.2
  rw [if_neg (by omega)]
  refine su_do hr rfl (fun _ _ => lk_no _ _ (by rfl)) (n, m) (ear_cons (er_var rfl rfl) (ear_cons (er_var rfl rfl) ear_nil)) (by omega) fun G2 F1 dj2 hr2 => ?_
  refine su_ret hr2 (er_two (ev_eqv (ev_sub (ev_lenL (er_sensors T (er_var rfl (rep_j hr2)))) ev_c) ?_))
  show (((r.sensors ++ [_]).length : Nat) : Int) - 1 = _
  rw [List.length_append]
  show (((r.sensors.length + 1 : Nat)) : Int) - 1 = _
  omega
theorem rd_do_tick (T : Txt K mg C) (h : sp_do_tick K C vs H Q E) : t_do_tick K C { nx := fun _ H' => Q .non H', rt := Q } (start N_do_tick vs) H := by
  refine dSp_rd (fun a r ⟨ms, rs⟩ us G F dj hr ho hu hk => ?_) h
  obtain ⟨x, y, rfl, hx, hy⟩ := hu.inv2
  have jx := Rp.mono _ (dj_r dj) hx
  have jy := Rp.mono _ (dj_r dj) hy
  show StU _ _ C a G F (Mi.doTick r ms rs)
  unfold Mi.doTick
  refine su_if (et_or (et_not (et_B (ca_moves_are_right (ear_cons (er_var rfl (rep_j hr)) (ear_cons (er_var rfl jx) ear_nil))))) fun _ => et_not (et_B (ca_readings_are_right (ear_cons (er_var rfl (rep_j hr)) (ear_cons (er_var rfl jy) ear_nil))))) (fun h => ?_) fun h => ?_
  · rw [if_pos (fun ⟨q1, q2⟩ => by
      rw [q1, q2] at h
      cases h)]
    exact su_no hr
  rw [Bool.or_eq_false_iff] at h
  have h1 := nb_f h.1
  have h2 := nb_f h.2
  rw [if_neg (fun q => q ⟨h1, h2⟩)]
  refine su_if (et_not (et_B (ev_begun T (er_var rfl (rep_j hr))))) (fun h => ?_) fun h => ?_
  · rw [if_pos (nb_t h)]
    exact su_no hr
  rw [if_neg (by rw [nb_f h]; exact Bool.noConfusion)]
  refine su_if (et_test (ev_eq (ev_now T (er_var rfl (rep_j hr))) ev_c)) (fun h => ?_) fun h => ?_
  · rw [if_pos (by have := of_decide_eq_true h; omega)]
    exact su_no hr
  have h3 := of_decide_eq_false h
  have hnow := ho.now
  rw [if_neg (by omega)]
  have l1 : ms.length = r.props.length := by
    unfold Mi.movesRight at h1
    rw [Bool.and_eq_true] at h1
    exact of_decide_eq_true h1.1
  have l2 : rs.length = r.sensors.length := by
    unfold Mi.readingsRight at h2
    rw [Bool.and_eq_true] at h2
    exact of_decide_eq_true h2.1
  refine su_do hr rfl (fun _ _ => lk_no _ _ (by rfl)) (ms, rs) (ear_cons (er_var rfl hx) (ear_cons (er_var rfl hy) ear_nil)) ⟨ho, l1, l2⟩ fun G2 F1 dj2 hr2 => ?_
  have ho2 := Mi.ok_stepped ho (by omega) l1 l2
  have e1 : ((Mi.stepped r ms rs).now : Int) = (r.now : Int) + 1 := by
    show ((r.now + 1 : Nat) : Int) = _
    omega
  exact su_ret hr2 (er_lst (Rs := [dI 0, dI _, dI _]) (ear_cons (er_v ev_c) (ear_cons (er_v (ev_eqv (ev_now T (er_var rfl (rep_j hr2))) e1)) (ear_cons (er_v (ev_bit (et_B (ca_can_be (ear_cons (er_var rfl (rep_j hr2)) ear_nil) ho2)))) ear_nil))) (by show 3 ≤ 100000; decide))
end
end Sk
/-! part W17 -/
namespace Mi
structure CallOk (c : Int) (ns : List Int) (rows : List (List Int)) : Prop where
  ex : ∃ k : Nat, c = (k : Int) ∧ k < 20 ∧ ns.length = nums.getD k 0 ∧ rows.length = rws.getD k 0
  sm : ∀ row ∈ rows, row.length ≤ 100
theorem CallOk.at {c : Int} {ns : List Int} {rows : List (List Int)} (h : CallOk c ns rows) {k : Nat} (e : c = (k : Int)) : ns.length = nums.getD k 0 ∧ rows.length = rws.getD k 0 := by
  obtain ⟨j, h1, h2, h3, h4⟩ := h.ex
  have ej : j = k := by omega
  rw [← ej]
  exact ⟨h3, h4⟩
theorem CallOk.row {c : Int} {ns : List Int} {rows : List (List Int)} (h : CallOk c ns rows) (i : Nat) : (rows.getD i []).length ≤ 100 := by
  rw [List.getD_eq_getElem?_getD]
  cases q : rows[i]? with
  | none => exact Nat.zero_le _
  | some row => exact h.sm row (List.mem_of_getElem? q)
theorem act_0 (r : Ro) (ns : List Int) (rows : List (List Int)) : act r 0 ns rows = doBegin r (ns.getD 0 0) := rfl
theorem act_1 (r : Ro) (ns : List Int) (rows : List (List Int)) : act r 1 ns rows = doProp r (ns.getD 0 0) := rfl
theorem act_2 (r : Ro) (ns : List Int) (rows : List (List Int)) : act r 2 ns rows = doSensor r (ns.getD 0 0) (ns.getD 1 0) := rfl
theorem act_3 (r : Ro) (ns : List Int) (rows : List (List Int)) : act r 3 ns rows = doGo r  := rfl
theorem act_4 (r : Ro) (ns : List Int) (rows : List (List Int)) : act r 4 ns rows = doTick r (rows.getD 0 []) (rows.getD 1 []) := rfl
theorem act_15 (r : Ro) (ns : List Int) (rows : List (List Int)) : act r 15 ns rows = doMend r (ns.getD 0 0) := rfl
theorem act_19 (r : Ro) (ns : List Int) (rows : List (List Int)) : act r 19 ns rows = doAllow r (ns.getD 0 0) := rfl
theorem act_5 (r : Ro) (ns : List Int) (rows : List (List Int)) : act r 5 ns rows = (r, sayWhere r (ns.getD 0 0) (ns.getD 1 0)) := rfl
theorem act_8 (r : Ro) (ns : List Int) (rows : List (List Int)) : act r 8 ns rows = (r, sayFewest r ) := rfl
theorem act_9 (r : Ro) (ns : List Int) (rows : List (List Int)) : act r 9 ns rows = (r, sayExplain r (ns.getD 0 0)) := rfl
theorem act_10 (r : Ro) (ns : List Int) (rows : List (List Int)) : act r 10 ns rows = (r, sayCheck r (ns.getD 0 0) (rows.getD 0 []) (rows.getD 1 [])) := rfl
theorem act_12 (r : Ro) (ns : List Int) (rows : List (List Int)) : act r 12 ns rows = (r, sayVote r (ns.getD 0 0)) := rfl
theorem act_17 (r : Ro) (ns : List Int) (rows : List (List Int)) : act r 17 ns rows = (r, sayState r ) := rfl
theorem act_18 (r : Ro) (ns : List Int) (rows : List (List Int)) : act r 18 ns rows = (r, sayWays r (ns.getD 0 0)) := rfl
theorem act_6 (r : Ro) (ns : List Int) (rows : List (List Int)) : act r 6 ns rows = (r, sayBlame r (ns.getD 0 0)) := rfl
theorem act_7 (r : Ro) (ns : List Int) (rows : List (List Int)) : act r 7 ns rows = (r, saySince r (ns.getD 0 0)) := rfl
theorem act_11 (r : Ro) (ns : List Int) (rows : List (List Int)) : act r 11 ns rows = (r, saySure r ) := rfl
theorem act_13 (r : Ro) (ns : List Int) (rows : List (List Int)) : act r 13 ns rows = (r, saySettle r (ns.getD 0 0) (ns.getD 1 0)) := rfl
theorem act_14 (r : Ro) (ns : List Int) (rows : List (List Int)) : act r 14 ns rows = (r, saySettles r (ns.getD 0 0) (rows.getD 0 [])) := rfl
theorem act_16 (r : Ro) (ns : List Int) (rows : List (List Int)) : act r 16 ns rows = (r, sayReads r (ns.getD 0 0)) := rfl
end Mi
namespace Sk
open PySem PySem.Spec PyProof.Rows L2 Evl
abbrev CArg := Int × List Int × List (List Int)
def aAct : List Int := [0, 1, 2, 3, 4, 15, 19]
def aProp : List Int := [5, 8, 9, 10, 12, 17, 18]
def aSens : List Int := [6, 7, 11, 13, 14, 16]
abbrev dRowsI (K : PySem.W.Frag) (rows : List (List Int)) : Rp := dL K (dInts K) rows
def sp_act (K : PySem.W.Frag) (C : Cs) : Sp := dSp C (fun (x : CArg) => [dI x.1, dInts K x.2.1, dRowsI K x.2.2]) (fun _ x => Mi.CallOk x.1 x.2.1 x.2.2 ∧ x.1 ∈ aAct) fun r x => Mi.act r x.1 x.2.1 x.2.2
def sp_ask_prop (K : PySem.W.Frag) (C : Cs) : Sp := mSp (fun (x : Mi.Ro × CArg) => [dRo K C x.1, dI x.2.1, dInts K x.2.2.1, dRowsI K x.2.2.2]) (fun x => Mi.Ok x.1 ∧ Mi.CallOk x.2.1 x.2.2.1 x.2.2.2 ∧ x.2.1 ∈ aProp) fun x => dMI (Mi.act x.1 x.2.1 x.2.2.1 x.2.2.2).2
def sp_ask_sensor (K : PySem.W.Frag) (C : Cs) : Sp := mSp (fun (x : Mi.Ro × CArg) => [dRo K C x.1, dI x.2.1, dInts K x.2.2.1, dRowsI K x.2.2.2]) (fun x => Mi.Ok x.1 ∧ Mi.CallOk x.2.1 x.2.2.1 x.2.2.2 ∧ x.2.1 ∈ aSens) fun x => dMI (Mi.act x.1 x.2.1 x.2.2.1 x.2.2.2).2
def sp_answer_of (K : PySem.W.Frag) (C : Cs) : Sp := dSp C (fun (x : CArg) => [dI x.1, dInts K x.2.1, dRowsI K x.2.2]) (fun _ x => Mi.CallOk x.1 x.2.1 x.2.2) fun r x => Mi.act r x.1 x.2.1 x.2.2
abbrev s_act : Stmt := top 103
abbrev N_act : List Str := ["room", "call", "numbers", "rows"]
def t_act (K : PySem.W.Frag) (C : Cs) : TS :=
  (tSeq (tIfS (tTest (tOp rEq (tVar 1) (tC (.int 0)))) (tRet (tCall (sp_do_begin K C) [] E0 (tCons (tVar 0) (tCons (tOp (rIxL K) (tVar 2) (tC (.int 0))) tNil)))) tNext)
    (tSeq (tIfS (tTest (tOp rEq (tVar 1) (tC (.int 1)))) (tRet (tCall (sp_do_prop K C) [] E0 (tCons (tVar 0) (tCons (tOp (rIxL K) (tVar 2) (tC (.int 0))) tNil)))) tNext)
    (tSeq (tIfS (tTest (tOp rEq (tVar 1) (tC (.int 2)))) (tRet (tCall (sp_do_sensor K C) [] E0 (tCons (tVar 0) (tCons (tOp (rIxL K) (tVar 2) (tC (.int 0))) (tCons (tOp (rIxL K) (tVar 2) (tC (.int 1))) tNil))))) tNext)
    (tSeq (tIfS (tTest (tOp rEq (tVar 1) (tC (.int 3)))) (tRet (tCall (sp_do_go K C) [] E0 (tCons (tVar 0) tNil))) tNext)
    (tSeq (tIfS (tTest (tOp rEq (tVar 1) (tC (.int 4)))) (tRet (tCall (sp_do_tick K C) [] E0 (tCons (tVar 0) (tCons (tOp (rIxL K) (tVar 3) (tC (.int 0))) (tCons (tOp (rIxL K) (tVar 3) (tC (.int 1))) tNil))))) tNext)
    (tSeq (tIfS (tTest (tOp rEq (tVar 1) (tC (.int 15)))) (tRet (tCall (sp_do_mend K C) [] E0 (tCons (tVar 0) (tCons (tOp (rIxL K) (tVar 2) (tC (.int 0))) tNil)))) tNext)
    (tRet (tCall (sp_do_allow K C) [] E0 (tCons (tVar 0) (tCons (tOp (rIxL K) (tVar 2) (tC (.int 0))) tNil))))))))))
abbrev s_ask_prop : Stmt := top 104
abbrev N_ask_prop : List Str := ["room", "call", "numbers", "rows"]
def t_ask_prop (K : PySem.W.Frag) (C : Cs) : TS :=
  (tSeq (tIfS (tTest (tOp rEq (tVar 1) (tC (.int 5)))) (tRet (tCall (sp_say_where K C) [] E0 (tCons (tVar 0) (tCons (tOp (rIxL K) (tVar 2) (tC (.int 0))) (tCons (tOp (rIxL K) (tVar 2) (tC (.int 1))) tNil))))) tNext)
    (tSeq (tIfS (tTest (tOp rEq (tVar 1) (tC (.int 8)))) (tRet (tCall (sp_say_fewest K C) [] E0 (tCons (tVar 0) tNil))) tNext)
    (tSeq (tIfS (tTest (tOp rEq (tVar 1) (tC (.int 9)))) (tRet (tCall (sp_say_explain K C) [] E0 (tCons (tVar 0) (tCons (tOp (rIxL K) (tVar 2) (tC (.int 0))) tNil)))) tNext)
    (tSeq (tIfS (tTest (tOp rEq (tVar 1) (tC (.int 10)))) (tRet (tCall (sp_say_check K C) [] E0 (tCons (tVar 0) (tCons (tOp (rIxL K) (tVar 2) (tC (.int 0))) (tCons (tOp (rIxL K) (tVar 3) (tC (.int 0))) (tCons (tOp (rIxL K) (tVar 3) (tC (.int 1))) tNil)))))) tNext)
    (tSeq (tIfS (tTest (tOp rEq (tVar 1) (tC (.int 12)))) (tRet (tCall (sp_say_vote K C) [] E0 (tCons (tVar 0) (tCons (tOp (rIxL K) (tVar 2) (tC (.int 0))) tNil)))) tNext)
    (tSeq (tIfS (tTest (tOp rEq (tVar 1) (tC (.int 17)))) (tRet (tCall (sp_say_state K C) [] E0 (tCons (tVar 0) tNil))) tNext)
    (tRet (tCall (sp_say_ways K C) [] E0 (tCons (tVar 0) (tCons (tOp (rIxL K) (tVar 2) (tC (.int 0))) tNil))))))))))
abbrev s_ask_sensor : Stmt := top 105
abbrev N_ask_sensor : List Str := ["room", "call", "numbers", "rows"]
def t_ask_sensor (K : PySem.W.Frag) (C : Cs) : TS :=
  (tSeq (tIfS (tTest (tOp rEq (tVar 1) (tC (.int 6)))) (tRet (tCall (sp_say_blame K C) [] E0 (tCons (tVar 0) (tCons (tOp (rIxL K) (tVar 2) (tC (.int 0))) tNil)))) tNext)
    (tSeq (tIfS (tTest (tOp rEq (tVar 1) (tC (.int 7)))) (tRet (tCall (sp_say_since K C) [] E0 (tCons (tVar 0) (tCons (tOp (rIxL K) (tVar 2) (tC (.int 0))) tNil)))) tNext)
    (tSeq (tIfS (tTest (tOp rEq (tVar 1) (tC (.int 11)))) (tRet (tCall (sp_say_sure K C) [] E0 (tCons (tVar 0) tNil))) tNext)
    (tSeq (tIfS (tTest (tOp rEq (tVar 1) (tC (.int 13)))) (tRet (tCall (sp_say_settle K C) [] E0 (tCons (tVar 0) (tCons (tOp (rIxL K) (tVar 2) (tC (.int 0))) (tCons (tOp (rIxL K) (tVar 2) (tC (.int 1))) tNil))))) tNext)
    (tSeq (tIfS (tTest (tOp rEq (tVar 1) (tC (.int 14)))) (tRet (tCall (sp_say_settles K C) [] E0 (tCons (tVar 0) (tCons (tOp (rIxL K) (tVar 2) (tC (.int 0))) (tCons (tOp (rIxL K) (tVar 3) (tC (.int 0))) tNil))))) tNext)
    (tRet (tCall (sp_say_reads K C) [] E0 (tCons (tVar 0) (tCons (tOp (rIxL K) (tVar 2) (tC (.int 0))) tNil)))))))))
abbrev s_answer_of : Stmt := top 106
abbrev N_answer_of : List Str := ["room", "call", "numbers", "rows"]
def t_answer_of (K : PySem.W.Frag) (C : Cs) : TS :=
  (tSeq (tIfS (tTest (tOp (rIn K false) (tVar 1) (tTup (tCons (tC (.int 0)) (tCons (tC (.int 1)) (tCons (tC (.int 2)) (tCons (tC (.int 3)) (tCons (tC (.int 4)) (tCons (tC (.int 15)) (tCons (tC (.int 19)) tNil)))))))))) (tRet (tCall (sp_act K C) [] E0 (tCons (tVar 0) (tCons (tVar 1) (tCons (tVar 2) (tCons (tVar 3) tNil)))))) tNext)
    (tSeq (tIfS (tTest (tOp (rIn K false) (tVar 1) (tTup (tCons (tC (.int 5)) (tCons (tC (.int 8)) (tCons (tC (.int 9)) (tCons (tC (.int 10)) (tCons (tC (.int 12)) (tCons (tC (.int 17)) (tCons (tC (.int 18)) tNil)))))))))) (tRet (tCall (sp_ask_prop K C) [] E0 (tCons (tVar 0) (tCons (tVar 1) (tCons (tVar 2) (tCons (tVar 3) tNil)))))) tNext)
    (tRet (tCall (sp_ask_sensor K C) [] E0 (tCons (tVar 0) (tCons (tVar 1) (tCons (tVar 2) (tCons (tVar 3) tNil))))))))
section
variable {K : PySem.W.Frag} {mg : Str → Option Value} {C : Cs} {vs : List V} {H : Hp} {Q : VK} {E : XK}
theorem len_act (h : sp_act K C vs H Q E) : vs.length = 4 := dSp_len (n := 3) (by intro _; rfl) h
theorem len_answer_of (h : sp_answer_of K C vs H Q E) : vs.length = 4 := dSp_len (n := 3) (by intro _; rfl) h
theorem len_ask_prop (h : sp_ask_prop K C vs H Q E) : vs.length = 4 := mSp_len (n := 4) (by intro _; rfl) h
theorem len_ask_sensor (h : sp_ask_sensor K C vs H Q E) : vs.length = 4 := mSp_len (n := 4) (by intro _; rfl) h
theorem ev_inT {σ : L2.St} {G : Hp} {ta tb : TE} {l : List Int} {i : Int} (ha : Ev ta σ G (.int i)) (hb : EvR tb σ G (dTp K (l.map dI))) : Ev (tOp (rIn K false) ta tb) σ G (.bl (l.any fun a => decide (a = i))) := fun H e Q q =>
  ha H e _ fun H1 e1 => hb H1 (e.trans e1) _ fun y G2 H2 g ⟨a, xs, ey, hs, hx⟩ => by
    have ex := All2.vals _ l hx
    subst ex
    refine ⟨a, _, ey, Or.inr (ex_t g.gh hs), rfl, flat_ints (fun a => a) l, ?_⟩
    rw [if_neg Bool.false_ne_true, inV_ints (fun a => a)]
    exact q H2 (e1.trans g.hh)
theorem any_mem {l : List Int} {i : Int} : (l.any fun a => decide (a = i)) = decide (i ∈ l) := by
  by_cases h : i ∈ l
  · rw [decide_eq_true h, List.any_eq_true]
    exact ⟨i, h, decide_eq_true rfl⟩
  · rw [decide_eq_false h]
    exact any_none fun a ha => decide_eq_false fun e => h (by rw [← e]; exact ha)
theorem rd_act (T : Txt K mg C) (h : sp_act K C vs H Q E) : t_act K C { nx := fun _ H' => Q .non H', rt := Q } (start N_act vs) H := by
  refine dSp_rd (fun a r ⟨c, ns, rows⟩ us G F dj hr ho hu hk => ?_) h
  obtain ⟨x, y, z, rfl, rfl, hy, hz⟩ := hu.inv3
  obtain ⟨hc, hm⟩ : Mi.CallOk c ns rows ∧ c ∈ aAct := hk
  show StU _ _ C a G F (Mi.act r c ns rows)
  refine su_if (et_test (ev_eq (ev_var rfl) ev_c)) (fun h => ?_) fun h0 => ?_
  · have hk0 : c = ((0 : Nat) : Int) := of_decide_eq_true h
    rw [hk0]
    exact su_call hr ho rfl (ns.getD 0 0) (ear_cons (er_ixD (d := 0) (f := dI) (er_var rfl hy) ev_c (by rw [(hc.at hk0).1]; decide)) ear_nil) trivial
  refine su_if (et_test (ev_eq (ev_var rfl) ev_c)) (fun h => ?_) fun h1 => ?_
  · have hk0 : c = ((1 : Nat) : Int) := of_decide_eq_true h
    rw [hk0]
    exact su_call hr ho rfl (ns.getD 0 0) (ear_cons (er_ixD (d := 0) (f := dI) (er_var rfl hy) ev_c (by rw [(hc.at hk0).1]; decide)) ear_nil) trivial
  refine su_if (et_test (ev_eq (ev_var rfl) ev_c)) (fun h => ?_) fun h2 => ?_
  · have hk0 : c = ((2 : Nat) : Int) := of_decide_eq_true h
    rw [hk0]
    exact su_call hr ho rfl ((ns.getD 0 0), (ns.getD 1 0)) (ear_cons (er_ixD (d := 0) (f := dI) (er_var rfl hy) ev_c (by rw [(hc.at hk0).1]; decide)) (ear_cons (er_ixD (d := 0) (f := dI) (er_var rfl hy) ev_c (by rw [(hc.at hk0).1]; decide)) ear_nil)) trivial
  refine su_if (et_test (ev_eq (ev_var rfl) ev_c)) (fun h => ?_) fun h3 => ?_
  · have hk0 : c = ((3 : Nat) : Int) := of_decide_eq_true h
    rw [hk0]
    exact su_call hr ho rfl () ear_nil trivial
  refine su_if (et_test (ev_eq (ev_var rfl) ev_c)) (fun h => ?_) fun h4 => ?_
  · have hk0 : c = ((4 : Nat) : Int) := of_decide_eq_true h
    rw [hk0]
    exact su_call hr ho rfl ((rows.getD 0 []), (rows.getD 1 [])) (ear_cons (er_ixD (d := []) (f := dInts K) (er_var rfl hz) ev_c (by rw [(hc.at hk0).2]; decide)) (ear_cons (er_ixD (d := []) (f := dInts K) (er_var rfl hz) ev_c (by rw [(hc.at hk0).2]; decide)) ear_nil)) trivial
  refine su_if (et_test (ev_eq (ev_var rfl) ev_c)) (fun h => ?_) fun h15 => ?_
  · have hk0 : c = ((15 : Nat) : Int) := of_decide_eq_true h
    rw [hk0]
    exact su_call hr ho rfl (ns.getD 0 0) (ear_cons (er_ixD (d := 0) (f := dI) (er_var rfl hy) ev_c (by rw [(hc.at hk0).1]; decide)) ear_nil) trivial
  have hk0 : c = ((19 : Nat) : Int) := by
    have q0 : ¬ c = 0 := of_decide_eq_false h0
    have q1 : ¬ c = 1 := of_decide_eq_false h1
    have q2 : ¬ c = 2 := of_decide_eq_false h2
    have q3 : ¬ c = 3 := of_decide_eq_false h3
    have q4 : ¬ c = 4 := of_decide_eq_false h4
    have q15 : ¬ c = 15 := of_decide_eq_false h15
    unfold aAct at hm
    simp only [List.mem_cons, List.not_mem_nil, or_false] at hm
    omega
  rw [hk0]
  exact su_call hr ho rfl (ns.getD 0 0) (ear_cons (er_ixD (d := 0) (f := dI) (er_var rfl hy) ev_c (by rw [(hc.at hk0).1]; decide)) ear_nil) trivial
theorem bd_ask_prop (T : Txt K mg C) (x : Mi.Ro × CArg) {G : Hp} (hv : All2 G [dRo K C x.1, dI x.2.1, dInts K x.2.2.1, dRowsI K x.2.2.2] vs) (hk : Mi.Ok x.1 ∧ Mi.CallOk x.2.1 x.2.2.1 x.2.2.2 ∧ x.2.1 ∈ aProp) : St (t_ask_prop K C) (start N_ask_prop vs) G noN (dMI (Mi.act x.1 x.2.1 x.2.2.1 x.2.2.2).2) := by
  obtain ⟨r, c, ns, rows⟩ := x
  obtain ⟨u, x, y, z, rfl, hr, rfl, hy, hz⟩ := hv.inv4
  obtain ⟨ho, hc, hm⟩ : Mi.Ok r ∧ Mi.CallOk c ns rows ∧ c ∈ aProp := hk
  show St _ _ G noN (dMI (Mi.act r c ns rows).2)
  refine q_if (et_test (ev_eq (ev_var rfl) ev_c)) (fun h => st_ret ?_) fun h5 => ?_
  · have hk0 : c = ((5 : Nat) : Int) := of_decide_eq_true h
    rw [hk0]
    exact ca_say_where (ear_cons (er_var rfl hr) (ear_cons (er_ixD (d := 0) (f := dI) (er_var rfl hy) ev_c (by rw [(hc.at hk0).1]; decide)) (ear_cons (er_ixD (d := 0) (f := dI) (er_var rfl hy) ev_c (by rw [(hc.at hk0).1]; decide)) ear_nil))) ho
  refine q_if (et_test (ev_eq (ev_var rfl) ev_c)) (fun h => st_ret ?_) fun h8 => ?_
  · have hk0 : c = ((8 : Nat) : Int) := of_decide_eq_true h
    rw [hk0]
    exact ca_say_fewest (ear_cons (er_var rfl hr) ear_nil) ho
  refine q_if (et_test (ev_eq (ev_var rfl) ev_c)) (fun h => st_ret ?_) fun h9 => ?_
  · have hk0 : c = ((9 : Nat) : Int) := of_decide_eq_true h
    rw [hk0]
    exact ca_say_explain (ear_cons (er_var rfl hr) (ear_cons (er_ixD (d := 0) (f := dI) (er_var rfl hy) ev_c (by rw [(hc.at hk0).1]; decide)) ear_nil)) ho
  refine q_if (et_test (ev_eq (ev_var rfl) ev_c)) (fun h => st_ret ?_) fun h10 => ?_
  · have hk0 : c = ((10 : Nat) : Int) := of_decide_eq_true h
    rw [hk0]
    exact ca_say_check (ear_cons (er_var rfl hr) (ear_cons (er_ixD (d := 0) (f := dI) (er_var rfl hy) ev_c (by rw [(hc.at hk0).1]; decide)) (ear_cons (er_ixD (d := []) (f := dInts K) (er_var rfl hz) ev_c (by rw [(hc.at hk0).2]; decide)) (ear_cons (er_ixD (d := []) (f := dInts K) (er_var rfl hz) ev_c (by rw [(hc.at hk0).2]; decide)) ear_nil)))) ⟨ho, hc.row 0, hc.row 1⟩
  refine q_if (et_test (ev_eq (ev_var rfl) ev_c)) (fun h => st_ret ?_) fun h12 => ?_
  · have hk0 : c = ((12 : Nat) : Int) := of_decide_eq_true h
    rw [hk0]
    exact ca_say_vote (ear_cons (er_var rfl hr) (ear_cons (er_ixD (d := 0) (f := dI) (er_var rfl hy) ev_c (by rw [(hc.at hk0).1]; decide)) ear_nil)) ho
  refine q_if (et_test (ev_eq (ev_var rfl) ev_c)) (fun h => st_ret ?_) fun h17 => ?_
  · have hk0 : c = ((17 : Nat) : Int) := of_decide_eq_true h
    rw [hk0]
    exact ca_say_state (ear_cons (er_var rfl hr) ear_nil)
  have hk0 : c = ((18 : Nat) : Int) := by
    have q5 : ¬ c = 5 := of_decide_eq_false h5
    have q8 : ¬ c = 8 := of_decide_eq_false h8
    have q9 : ¬ c = 9 := of_decide_eq_false h9
    have q10 : ¬ c = 10 := of_decide_eq_false h10
    have q12 : ¬ c = 12 := of_decide_eq_false h12
    have q17 : ¬ c = 17 := of_decide_eq_false h17
    unfold aProp at hm
    simp only [List.mem_cons, List.not_mem_nil, or_false] at hm
    omega
  rw [hk0]
  exact st_ret (ca_say_ways (ear_cons (er_var rfl hr) (ear_cons (er_ixD (d := 0) (f := dI) (er_var rfl hy) ev_c (by rw [(hc.at hk0).1]; decide)) ear_nil)) ho)
theorem rd_ask_prop (T : Txt K mg C) (h : sp_ask_prop K C vs H Q E) : t_ask_prop K C { nx := fun _ H' => Q .non H', rt := Q } (start N_ask_prop vs) H := mSp_rd (fun a vs G hv hk => bd_ask_prop T a hv hk) h
theorem bd_ask_sensor (T : Txt K mg C) (x : Mi.Ro × CArg) {G : Hp} (hv : All2 G [dRo K C x.1, dI x.2.1, dInts K x.2.2.1, dRowsI K x.2.2.2] vs) (hk : Mi.Ok x.1 ∧ Mi.CallOk x.2.1 x.2.2.1 x.2.2.2 ∧ x.2.1 ∈ aSens) : St (t_ask_sensor K C) (start N_ask_sensor vs) G noN (dMI (Mi.act x.1 x.2.1 x.2.2.1 x.2.2.2).2) := by
  obtain ⟨r, c, ns, rows⟩ := x
  obtain ⟨u, x, y, z, rfl, hr, rfl, hy, hz⟩ := hv.inv4
  obtain ⟨ho, hc, hm⟩ : Mi.Ok r ∧ Mi.CallOk c ns rows ∧ c ∈ aSens := hk
  show St _ _ G noN (dMI (Mi.act r c ns rows).2)
  refine q_if (et_test (ev_eq (ev_var rfl) ev_c)) (fun h => st_ret ?_) fun h6 => ?_
  · have hk0 : c = ((6 : Nat) : Int) := of_decide_eq_true h
    rw [hk0]
    exact ca_say_blame (ear_cons (er_var rfl hr) (ear_cons (er_ixD (d := 0) (f := dI) (er_var rfl hy) ev_c (by rw [(hc.at hk0).1]; decide)) ear_nil)) ho
  refine q_if (et_test (ev_eq (ev_var rfl) ev_c)) (fun h => st_ret ?_) fun h7 => ?_
  · have hk0 : c = ((7 : Nat) : Int) := of_decide_eq_true h
    rw [hk0]
    exact ca_say_since (ear_cons (er_var rfl hr) (ear_cons (er_ixD (d := 0) (f := dI) (er_var rfl hy) ev_c (by rw [(hc.at hk0).1]; decide)) ear_nil)) ho
  refine q_if (et_test (ev_eq (ev_var rfl) ev_c)) (fun h => st_ret ?_) fun h11 => ?_
  · have hk0 : c = ((11 : Nat) : Int) := of_decide_eq_true h
    rw [hk0]
    exact ca_say_sure (ear_cons (er_var rfl hr) ear_nil) ho
  refine q_if (et_test (ev_eq (ev_var rfl) ev_c)) (fun h => st_ret ?_) fun h13 => ?_
  · have hk0 : c = ((13 : Nat) : Int) := of_decide_eq_true h
    rw [hk0]
    exact ca_say_settle (ear_cons (er_var rfl hr) (ear_cons (er_ixD (d := 0) (f := dI) (er_var rfl hy) ev_c (by rw [(hc.at hk0).1]; decide)) (ear_cons (er_ixD (d := 0) (f := dI) (er_var rfl hy) ev_c (by rw [(hc.at hk0).1]; decide)) ear_nil))) ho
  refine q_if (et_test (ev_eq (ev_var rfl) ev_c)) (fun h => st_ret ?_) fun h14 => ?_
  · have hk0 : c = ((14 : Nat) : Int) := of_decide_eq_true h
    rw [hk0]
    exact ca_say_settles (ear_cons (er_var rfl hr) (ear_cons (er_ixD (d := 0) (f := dI) (er_var rfl hy) ev_c (by rw [(hc.at hk0).1]; decide)) (ear_cons (er_ixD (d := []) (f := dInts K) (er_var rfl hz) ev_c (by rw [(hc.at hk0).2]; decide)) ear_nil))) ho
  have hk0 : c = ((16 : Nat) : Int) := by
    have q6 : ¬ c = 6 := of_decide_eq_false h6
    have q7 : ¬ c = 7 := of_decide_eq_false h7
    have q11 : ¬ c = 11 := of_decide_eq_false h11
    have q13 : ¬ c = 13 := of_decide_eq_false h13
    have q14 : ¬ c = 14 := of_decide_eq_false h14
    unfold aSens at hm
    simp only [List.mem_cons, List.not_mem_nil, or_false] at hm
    omega
  rw [hk0]
  exact st_ret (ca_say_reads (ear_cons (er_var rfl hr) (ear_cons (er_ixD (d := 0) (f := dI) (er_var rfl hy) ev_c (by rw [(hc.at hk0).1]; decide)) ear_nil)) ho)
theorem rd_ask_sensor (T : Txt K mg C) (h : sp_ask_sensor K C vs H Q E) : t_ask_sensor K C { nx := fun _ H' => Q .non H', rt := Q } (start N_ask_sensor vs) H := mSp_rd (fun a vs G hv hk => bd_ask_sensor T a hv hk) h
theorem act_pure {r : Mi.Ro} {c : Int} {ns : List Int} {rows : List (List Int)} (h : c ∈ aProp ∨ c ∈ aSens) : Mi.act r c ns rows = (r, (Mi.act r c ns rows).2) := by
  unfold aProp aSens at h
  simp only [List.mem_cons, List.not_mem_nil, or_false] at h
  rcases h with h | h
  · rcases h with rfl | rfl | rfl | rfl | rfl | rfl | rfl <;> rfl
  · rcases h with rfl | rfl | rfl | rfl | rfl | rfl <;> rfl
theorem rd_answer_of (T : Txt K mg C) (h : sp_answer_of K C vs H Q E) : t_answer_of K C { nx := fun _ H' => Q .non H', rt := Q } (start N_answer_of vs) H := by
  refine dSp_rd (fun a r ⟨c, ns, rows⟩ us G F dj hr ho hu hc => ?_) h
  obtain ⟨x, y, z, rfl, rfl, hy, hz⟩ := hu.inv3
  have jy := Rp.mono _ (dj_r dj) hy
  have jz := Rp.mono _ (dj_r dj) hz
  change Mi.CallOk c ns rows at hc
  show StU _ _ C a G F (Mi.act r c ns rows)
  have tup7 : ∀ (σ : L2.St) (G : Hp) (a b c d e f g : Int), EvR (tTup (tCons (tC (.int a)) (tCons (tC (.int b)) (tCons (tC (.int c)) (tCons (tC (.int d)) (tCons (tC (.int e)) (tCons (tC (.int f)) (tCons (tC (.int g)) tNil)))))))) σ G (dTp K ([a, b, c, d, e, f, g].map dI)) := fun σ G a b c d e f g =>
    er_tup (K := K) (Rs := [dI a, dI b, dI c, dI d, dI e, dI f, dI g]) (ear_cons (er_v ev_c) (ear_cons (er_v ev_c) (ear_cons (er_v ev_c) (ear_cons (er_v ev_c) (ear_cons (er_v ev_c) (ear_cons (er_v ev_c) (ear_cons (er_v ev_c) ear_nil))))))) (by show 7 ≤ 100000; decide)
  refine su_if (b := decide (c ∈ aAct)) (et_test (ev_to (ev_inT (ev_var rfl) (tup7 _ _ 0 1 2 3 4 15 19)) any_mem)) (fun h => ?_) fun h => ?_
  · exact su_call hr ho rfl (c, ns, rows) (ear_cons (er_var rfl rfl) (ear_cons (er_var rfl hy) (ear_cons (er_var rfl hz) ear_nil))) ⟨hc, of_decide_eq_true h⟩
  have h1 := of_decide_eq_false h
  refine su_if (b := decide (c ∈ aProp)) (et_test (ev_to (ev_inT (ev_var rfl) (tup7 _ _ 5 8 9 10 12 17 18)) any_mem)) (fun h => ?_) fun h => ?_
  · have h2 := of_decide_eq_true h
    rw [act_pure (.inl h2)]
    exact su_ret hr (er_callM (r, c, ns, rows) (ear_cons (er_var rfl (rep_j hr)) (ear_cons (er_var rfl rfl) (ear_cons (er_var rfl jy) (ear_cons (er_var rfl jz) ear_nil)))) ⟨ho, hc, h2⟩)
  have h2 := of_decide_eq_false h
  have h3 : c ∈ aSens := by
    obtain ⟨k, e, hk, _⟩ := hc.ex
    unfold aAct at h1
    unfold aProp at h2
    unfold aSens
    simp only [List.mem_cons, List.not_mem_nil, or_false] at h1 h2 ⊢
    omega
  rw [act_pure (.inr h3)]
  exact su_ret hr (er_callM (r, c, ns, rows) (ear_cons (er_var rfl (rep_j hr)) (ear_cons (er_var rfl rfl) (ear_cons (er_var rfl jy) (ear_cons (er_var rfl jz) ear_nil)))) ⟨ho, hc, h3⟩)
end
end Sk
/-! part W18 -/
namespace Mi
def stepC (r : Ro) (c : List (List Int)) : Ro × List Int := match c with
  | (p :: a) :: xs => act r p a xs
  | _ => (r, [])
def COk (c : List (List Int)) : Prop := ∃ p a xs, c = (p :: a) :: xs ∧ CallOk p a xs
structure Inv (r : Ro) : Prop where
  ok : Ok r
  z : r.begun = false → r.now = 0
theorem fst_if {b : Prop} [Decidable b] {x y : Ro × List Int} {r : Ro} (h1 : x.1 = r) (h2 : y.1 = r) : (if b then x else y).1 = r := by
  split <;> assumption
theorem inv_act {r : Ro} (h : Inv r) (c : Int) (ns : List Int) (rows : List (List Int)) : Inv (act r c ns rows).1 := by
  unfold act
  simp only []
  by_cases c0 : c = 0
  · rw [if_pos c0]
    unfold doBegin
    by_cases q : 0 ≤ ns.getD 0 0 ∧ ns.getD 0 0 ≤ 2
    · rw [if_pos q]
      exact ⟨ok_fresh (by omega), fun _ => rfl⟩
    · rw [if_neg q]
      exact h
  rw [if_neg c0]
  by_cases c1 : c = 1
  · rw [if_pos c1]
    unfold doProp
    by_cases q : ¬ (2 ≤ ns.getD 0 0 ∧ ns.getD 0 0 ≤ 8)
    · rw [if_pos q]
      exact h
    rw [if_neg q]
    by_cases q2 : r.begun = true
    · rw [if_pos q2]
      exact h
    rw [if_neg q2]
    have hb : r.begun = false := by
      cases e : r.begun with
      | true => exact (q2 e).elim
      | false => rfl
    by_cases q3 : r.props.length = 4
    · rw [if_pos q3]
      exact h
    rw [if_neg q3]
    have := h.ok.np
    exact ⟨ok_prop h.ok (by omega) (h.z hb) (by omega) (by omega), h.z⟩
  rw [if_neg c1]
  by_cases c2 : c = 2
  · rw [if_pos c2]
    unfold doSensor
    by_cases q : ¬ (isProp r (ns.getD 0 0) = true ∧ 0 ≤ ns.getD 1 0 ∧ ns.getD 1 0 ≤ 3)
    · rw [if_pos q]
      exact h
    rw [if_neg q]
    have q' := Classical.not_not.mp q
    by_cases q2 : r.begun = true
    · rw [if_pos q2]
      exact h
    rw [if_neg q2]
    have hb : r.begun = false := by
      cases e : r.begun with
      | true => exact (q2 e).elim
      | false => rfl
    by_cases q3 : r.sensors.length = 8 ∨ (sensorsOf r (ns.getD 0 0).toNat).length = 4
    · rw [if_pos q3]
      exact h
    rw [if_neg q3]
    have h1 := h.ok.ns
    have h2 := h.ok.one (ns.getD 0 0).toNat
    obtain ⟨n, e, hn⟩ := isProp_nat q'.1
    exact ⟨ok_sensor h.ok (by omega) (h.z hb) (by rw [e, Int.toNat_natCast]; exact hn) (by omega) (by omega), h.z⟩
  rw [if_neg c2]
  by_cases c3 : c = 3
  · rw [if_pos c3]
    unfold doGo
    by_cases q : r.begun = true
    · rw [if_pos q]
      exact h
    rw [if_neg q]
    by_cases q2 : r.props.length = 0
    · rw [if_pos q2]
      exact h
    rw [if_neg q2]
    exact ⟨ok_begun h.ok true, fun e => by cases e⟩
  rw [if_neg c3]
  by_cases c4 : c = 4
  · rw [if_pos c4]
    unfold doTick
    by_cases q : ¬ (movesRight r (rows.getD 0 []) = true ∧ readingsRight r (rows.getD 1 []) = true)
    · rw [if_pos q]
      exact h
    rw [if_neg q]
    have q' := Classical.not_not.mp q
    by_cases q2 : r.begun = false
    · rw [if_pos q2]
      exact h
    rw [if_neg q2]
    by_cases q3 : r.now = 24
    · rw [if_pos q3]
      exact h
    rw [if_neg q3]
    have h1 := h.ok.now
    obtain ⟨m1, m2⟩ := q'
    unfold movesRight at m1
    unfold readingsRight at m2
    rw [Bool.and_eq_true] at m1 m2
    exact ⟨ok_stepped h.ok (by omega) (of_decide_eq_true m1.1) (of_decide_eq_true m2.1), fun e => (q2 e).elim⟩
  rw [if_neg c4]
  by_cases c15 : c = 15
  · rw [if_pos c15]
    unfold doMend
    by_cases q : isSensor r (ns.getD 0 0) = false
    · rw [if_pos q]
      exact h
    rw [if_neg q]
    by_cases q2 : r.begun = false
    · rw [if_pos q2]
      exact h
    rw [if_neg q2]
    exact ⟨ok_mended h.ok _, fun e => (q2 e).elim⟩
  rw [if_neg c15]
  by_cases c19 : c = 19
  · rw [if_pos c19]
    unfold doAllow
    by_cases q : 0 ≤ ns.getD 0 0 ∧ ns.getD 0 0 ≤ 2
    · rw [if_pos q]
      exact ⟨ok_most h.ok (by omega), h.z⟩
    · rw [if_neg q]
      exact h
  rw [if_neg c19]
  have key : ∀ q : Ro, q = r → Inv q := fun q e => by
    rw [e]
    exact h
  exact key _ (fst_if rfl (fst_if rfl (fst_if rfl (fst_if rfl (fst_if rfl (fst_if rfl (fst_if rfl (fst_if rfl (fst_if rfl (fst_if rfl (fst_if rfl (fst_if rfl rfl))))))))))))
end Mi
namespace PyFlat
theorem putRows_append : ∀ a b : List (List Int), putRows (a ++ b) = putRows a ++ putRows b
  | [], _ => rfl
  | x :: a, b => by
    show putRow x ++ putRows (a ++ b) = (putRow x ++ putRows a) ++ putRows b
    rw [putRows_append a b, List.append_assoc]
end PyFlat
namespace Sk
open PySem PySem.Spec PyProof.Rows L2 Evl
abbrev RArg := List Int × List (List Int) × List Int
def sp_rows_at (K : PySem.W.Frag) (C : Cs) : Sp := mSp (fun (x : RArg) => [dInts K (x.1 ++ PyFlat.putRows x.2.1 ++ x.2.2), dN x.1.length, dN x.2.1.length]) (fun x => x.2.1.length ≤ 1000) fun x => dTp K [dM (x.2.1.map dMI), dN (x.1.length + (PyFlat.putRows x.2.1).length)]
def sp_answers (K : PySem.W.Frag) (C : Cs) : Sp := mSp (fun (cs : List (List (List Int))) => [dInts K (PyFlat.put cs)]) (fun cs => (∀ c ∈ cs, Mi.COk c) ∧ (PyFlat.told (PyFlat.played Mi.stepC Mi.Ro.fresh cs)).length ≤ 10000000) fun cs => dMI (PyFlat.told (PyFlat.played Mi.stepC Mi.Ro.fresh cs))
abbrev s_rows_at : Stmt := top 107
abbrev N_rows_at : List Str := ["calls", "at", "many", "rows", "turn", "count"]
def t_rows_at (K : PySem.W.Frag) (C : Cs) : TS :=
  (tSeq (tAsg (tLst tNil) (gName 3))
    (tSeq (tFor (iRng1 (tCons (tVar 2) tNil)) (gName 4) (tSeq (tAsg (tOp (rIxL K) (tVar 0) (tVar 1)) (gName 5))
    (tSeq (tDrop (tBM K "list" rAppend (tVar 3) (tCons (tSl (rSlL K) (tVar 0) (tPart (tOp (rI0 fun i j => .int (i + j)) (tVar 1) (tC (.int 1)))) (tPart (tOp (rI0 fun i j => .int (i + j)) (tOp (rI0 fun i j => .int (i + j)) (tVar 1) (tC (.int 1))) (tVar 5)))) tNil)))
    (tAsg (tOp (rI0 fun i j => .int (i + j)) (tOp (rI0 fun i j => .int (i + j)) (tVar 1) (tC (.int 1))) (tVar 5)) (gName 1)))))
    (tRet (tTup (tCons (tVar 3) (tCons (tVar 1) tNil))))))
abbrev s_answers : Stmt := top 108
abbrev N_answers : List Str := ["calls", "room", "told", "at", "call", "behind", "numbers", "rows", "answer"]
def t_answers (K : PySem.W.Frag) (C : Cs) : TS :=
  (tSeq (tAsg (tMake C.R (sp_Room_init K C) [] E0 tNil) (gName 1))
    (tSeq (tAsg (tLst tNil) (gName 2))
    (tSeq (tAsg (tC (.int 0)) (gName 3))
    (tSeq (tWhile (tTest (tOp (rI0 fun i j => .bl (decide (i < j))) (tVar 3) (tCB (rLenS K) (tCons (tVar 0) tNil)))) (tSeq (tAsg (tOp (rIxL K) (tVar 0) (tVar 3)) (gName 4))
    (tSeq (tAsg (tOp (rI0 fun i j => .int (i + j)) (tOp (rI0 fun i j => .int (i + j)) (tVar 3) (tC (.int 1))) (tOp (rIxT K) (tC (.ref C.NUMBERS)) (tVar 4))) (gName 5))
    (tSeq (tAsg (tSl (rSlL K) (tVar 0) (tPart (tOp (rI0 fun i j => .int (i + j)) (tVar 3) (tC (.int 1)))) (tPart (tVar 5))) (gName 6))
    (tSeq (tAsg (tCall (sp_rows_at K C) [] E0 (tCons (tVar 0) (tCons (tVar 5) (tCons (tOp (rIxT K) (tC (.ref C.ROWS)) (tVar 4)) tNil)))) (gTup K 2 (gCons (gName 7) (gCons (gName 3) gNil))))
    (tSeq (tAsg (tCall (sp_answer_of K C) [] E0 (tCons (tVar 1) (tCons (tVar 4) (tCons (tVar 6) (tCons (tVar 7) tNil))))) (gName 8))
    (tSeq (tDrop (tBM K "list" rAppend (tVar 2) (tCons (tCB (rLenS K) (tCons (tVar 8) tNil)) tNil)))
    (tDrop (tBM K "list" rExtend (tVar 2) (tCons (tVar 8) tNil))))))))))
    (tRet (tVar 2))))))
section
variable {K : PySem.W.Frag} {mg : Str → Option Value} {C : Cs} {vs : List V} {H : Hp} {Q : VK} {E : XK}
theorem len_rows_at (h : sp_rows_at K C vs H Q E) : vs.length = 3 := mSp_len (n := 3) (by intro _; rfl) h
theorem len_answers (h : sp_answers K C vs H Q E) : vs.length = 1 := mSp_len (n := 1) (by intro _; rfl) h
theorem cutV_two (xs : List V) (lo hi : Nat) : cutV xs (some (lo : Int)) (some (hi : Int)) = (xs.drop lo).take (hi - lo) := by
  unfold cutV
  rw [HT.sIx_nat, HT.sIx_nat]
  by_cases h : lo ≤ xs.length
  · rw [Nat.min_eq_left h]
    by_cases h2 : hi ≤ xs.length
    · rw [Nat.min_eq_left h2]
    · rw [Nat.min_eq_right (by omega), List.take_of_length_le (by rw [List.length_drop]; omega), List.take_of_length_le (by rw [List.length_drop]; omega)]
  · rw [Nat.min_eq_right (show xs.length ≤ lo by omega), List.drop_eq_nil_of_le (Nat.le_refl _), List.drop_eq_nil_of_le (show xs.length ≤ lo by omega), List.take_nil, List.take_nil]
theorem er_slice {σ : L2.St} {G : Hp} {ta tb te : TE} {rs : List Rp} {lo hi : Nat} (ha : EvR te σ G (dLs K rs)) (hl : Ev ta σ G (.int (lo : Int))) (hh : Ev tb σ G (.int (hi : Int))) : EvR (tSl (rSlL K) te (tPart ta) (tPart tb)) σ G (dM ((rs.drop lo).take (hi - lo))) := fun H e Q q =>
  ha H e _ fun x G1 H1 g ⟨a, xs, ex, hs, hx⟩ => hl H1 (e.trans g.hh) _ fun H2 e2 => ⟨(lo : Int), rfl, hh H2 ((e.trans g.hh).trans e2) _ fun H3 e3 => ⟨(hi : Int), rfl, a, xs, ex, ex_l ((g.gh.trans e2).trans e3) hs, fun p hp => by
    have g2 := ((g.more e2).more e3).laid (o := .lst ((xs.drop lo).take (hi - lo))) hp
    rw [cutV_two]
    exact q (.ref p) _ _ g2 ⟨p, _, rfl, upd_same, ((hx.drop lo).take (hi - lo)).mono (Ex.new (fresh_back ((g.gh.trans e2).trans e3) hp))⟩⟩⟩
/-- a part of a list of ints -/
theorem er_part {σ : L2.St} {G : Hp} {ta tb te : TE} {P x S : List Int} {lo hi : Nat} (ha : EvR te σ G (dInts K (P ++ x ++ S))) (hl : Ev ta σ G (.int (lo : Int))) (hh : Ev tb σ G (.int (hi : Int))) (e1 : lo = P.length) (e2 : hi = P.length + x.length) : EvR (tSl (rSlL K) te (tPart ta) (tPart tb)) σ G (dMI x) := by
  have h := er_slice ha hl hh
  rw [← List.map_drop, ← List.map_take] at h
  have e : ((P ++ x ++ S).drop lo).take (hi - lo) = x := by
    rw [e1, e2, List.append_assoc, PyFlat.drop_len, Nat.add_sub_cancel_left, PyFlat.take_len]
  rw [e] at h
  exact h
theorem sb_asgL {σ : L2.St} {G : Hp} {te : TE} {v : V} {N : L2.St → Hp → List V → Prop} {p : Addr} {xs : List V} {i : Nat} (h : Ev te σ (upd G p (.lst xs)) v) (k : N (σ.set i (some v)) G xs) : StB (tAsg te (gName i)) σ G p xs N := fun H D e hp hx n =>
  h H (fun c o q => by
    by_cases hc : c = p
    · subst hc
      rw [upd_same] at q
      rw [← q]
      exact hx
    · rw [upd_ne hc] at q
      exact e c o q) _ fun H1 e1 => n _ G H1 xs ((GrowP.start e hp).more e1) (e1 p _ hx) k
theorem at_len {P : List Int} {x : Int} {S : List Int} : (P ++ x :: S)[P.length]? = some x := by
  rw [List.getElem?_append_right (Nat.le_refl _), Nat.sub_self]
  rfl
theorem bd_rows_at (T : Txt K mg C) (x : RArg) {G : Hp} (hv : All2 G [dInts K (x.1 ++ PyFlat.putRows x.2.1 ++ x.2.2), dN x.1.length, dN x.2.1.length] vs) (hk : x.2.1.length ≤ 1000) : St (t_rows_at K C) (start N_rows_at vs) G noN (dTp K [dM (x.2.1.map dMI), dN (x.1.length + (PyFlat.putRows x.2.1).length)]) := by
  obtain ⟨pre, xs, rest⟩ := x
  obtain ⟨v0, y, z, rfl, hl, hy, hz⟩ := hv.inv3
  change (dInts K (pre ++ PyFlat.putRows xs ++ rest)).p G v0 at hl
  have ey : y = .int (pre.length : Int) := hy
  have ez : z = .int (xs.length : Int) := hz
  subst ey
  subst ez
  change xs.length ≤ 1000 at hk
  show St _ _ G noN (dTp K [dM (xs.map dMI), dN (pre.length + (PyFlat.putRows xs).length)])
  refine q_build (Rs := []) (fun p σ2 G2 ys => (∃ y4 y5, σ2 = [some v0, some (.int ((pre.length + (PyFlat.putRows (xs.take xs.length)).length : Nat) : Int)), some (.int (xs.length : Int)), some (.ref p), y4, y5]) ∧ All2 G2 ((xs.take xs.length).map dMI) ys) ear_nil (by show 0 ≤ 100000; decide) (fun p xs0 G1 e1 h0 => ?_) fun p σ2 G2 ys e2 hp ⟨⟨y4, y5, es⟩, hys⟩ => ?_
  · cases h0
    refine sb_forR1 xs.length (fun k σ2 G2 ys => (∃ y4 y5, σ2 = [some v0, some (.int ((pre.length + (PyFlat.putRows (xs.take k)).length : Nat) : Int)), some (.int (xs.length : Int)), some (.ref p), y4, y5]) ∧ All2 G2 ((xs.take k).map dMI) ys) (ea_cons (ev_var rfl) ea_nil) (by omega) ⟨⟨none, none, rfl⟩, .nil⟩ fun k σ' G' ys hkk e3 ⟨⟨y4, y5, es⟩, hys⟩ => ?_
    subst es
    have hx : xs[k]? = some xs[k] := List.getElem?_eq_getElem hkk
    generalize xs[k] = w at hx
    have hsplit : xs = xs.take k ++ w :: xs.drop (k + 1) := by
      have h1 := List.take_append_drop k xs
      have h2 : xs.drop k = w :: xs.drop (k + 1) := by
        rw [List.drop_eq_getElem_cons hkk]
        rw [List.getElem?_eq_getElem hkk] at hx
        rw [Option.some.inj hx]
      rw [h2] at h1
      exact h1.symm
    have hL : pre ++ PyFlat.putRows xs ++ rest = (pre ++ PyFlat.putRows (xs.take k)) ++ ((w.length : Int) :: (w ++ (PyFlat.putRows (xs.drop (k + 1)) ++ rest))) := by
      have e := PyFlat.putRows_append (xs.take k) (w :: xs.drop (k + 1))
      rw [← hsplit] at e
      rw [e]
      show pre ++ (PyFlat.putRows (xs.take k) ++ (((w.length : Int) :: w) ++ PyFlat.putRows (xs.drop (k + 1)))) ++ rest = _
      simp only [List.append_assoc, List.cons_append]
    have hL2 : pre ++ PyFlat.putRows xs ++ rest = ((pre ++ PyFlat.putRows (xs.take k)) ++ [(w.length : Int)]) ++ w ++ (PyFlat.putRows (xs.drop (k + 1)) ++ rest) := by
      rw [hL]
      simp only [List.append_assoc, List.cons_append, List.nil_append]
    have elen : pre.length + (PyFlat.putRows (xs.take k)).length = (pre ++ PyFlat.putRows (xs.take k)).length := by rw [List.length_append]
    have hl1 : (dInts K (pre ++ PyFlat.putRows xs ++ rest)).p G' v0 := Rp.mono _ (e1.trans e3) hl
    have e4 : PyFlat.putRows (xs.take (k + 1)) = PyFlat.putRows (xs.take k) ++ (((w.length : Int) :: w) ++ []) := by
      rw [take_succ hx, PyFlat.putRows_append]
      rfl
    have ht : pre.length + (PyFlat.putRows (xs.take (k + 1))).length = pre.length + (PyFlat.putRows (xs.take k)).length + 1 + w.length := by
      rw [e4, List.append_nil, List.length_append, List.length_cons]
      omega
    have hl2 : (dInts K ((pre ++ PyFlat.putRows (xs.take k)) ++ ((w.length : Int) :: (w ++ (PyFlat.putRows (xs.drop (k + 1)) ++ rest))))).p G' v0 := by
      rw [← hL]
      exact hl1
    refine ⟨_, tg_name, sb_asgR (S := dV (.int (w.length : Int))) (er_ixL (K := K) (f := dI) (er_var rfl hl2) (ev_eqv (ev_var rfl) (congrArg Int.ofNat elen)) at_len) fun c G2 e5 hc => ?_⟩
    have ec : c = .int (w.length : Int) := hc
    subst ec
    have hl3 : (dInts K (((pre ++ PyFlat.putRows (xs.take k)) ++ [(w.length : Int)]) ++ w ++ (PyFlat.putRows (xs.drop (k + 1)) ++ rest))).p G2 v0 := by
      rw [← hL2]
      exact Rp.mono _ e5 hl1
    have b1 : ((pre ++ PyFlat.putRows (xs.take k)) ++ [(w.length : Int)]).length = pre.length + (PyFlat.putRows (xs.take k)).length + 1 := by
      rw [List.length_append, List.length_append]
      rfl
    refine sb_seq (M := fun σ2 G2 zs => σ2 = [some v0, some (.int ((pre.length + (PyFlat.putRows (xs.take k)).length : Nat) : Int)), some (.int (xs.length : Int)), some (.ref p), some (.int (k : Int)), some (.int (w.length : Int))] ∧ All2 G2 ((xs.take (k + 1)).map dMI) zs)
      (sb_app (i := 3) rfl (er_part (K := K) (lo := pre.length + (PyFlat.putRows (xs.take k)).length + 1) (hi := pre.length + (PyFlat.putRows (xs.take k)).length + 1 + w.length) (er_var rfl hl3) (ev_eqv (ev_add (ev_var rfl) ev_c) (by omega)) (ev_eqv (ev_add (ev_add (ev_var rfl) ev_c) (ev_var rfl)) (by omega)) b1.symm (by rw [b1])) ?_ fun u G3 e6 hu => ⟨rfl, ?_⟩) fun σ2 G3 zs e6 ⟨es, hzs⟩ => ?_
    · rw [hys.length, List.length_map]
      have := List.length_take_le k xs
      omega
    · rw [take_succ hx, List.map_append]
      exact (hys.mono (e5.trans e6)).append (.one hu)
    · subst es
      exact sb_asgL (v := .int ((pre.length + (PyFlat.putRows (xs.take (k + 1))).length : Nat) : Int)) (ev_eqv (ev_add (ev_add (ev_var rfl) ev_c) (ev_var rfl)) (by rw [ht]; omega)) ⟨⟨some (.int (k : Int)), some (.int (w.length : Int)), rfl⟩, hzs⟩
  · subst es
    rw [List.take_length] at hys ⊢
    refine st_ret (er_tup (K := K) (Rs := [dM (xs.map dMI), dN _]) (ear_cons (er_var rfl ⟨p, ys, rfl, upd_same, hys.mono (Ex.new hp)⟩) (ear_cons (er_v (ev_var rfl)) ear_nil)) (by show 2 ≤ 100000; decide))
theorem rd_rows_at (T : Txt K mg C) (h : sp_rows_at K C vs H Q E) : t_rows_at K C { nx := fun _ H' => Q .non H', rt := Q } (start N_rows_at vs) H := mSp_rd (fun a vs G hv hk => bd_rows_at T a hv hk) h
def noH : Hp := fun _ => none
theorem put_cons {c : List (List Int)} {cs : List (List (List Int))} : PyFlat.put (c :: cs) = PyFlat.put1 c ++ PyFlat.put cs := rfl
structure WInv (C : Cs) (F H0 : Hp) (l total : List Int) (a p : Addr) (rest : List (List (List Int))) (G H : Hp) (r : Mi.Ro) (pre told : List Int) : Prop where
  el : l = pre ++ PyFlat.put rest
  ok : ∀ c ∈ rest, Mi.COk c
  et : told ++ PyFlat.told (PyFlat.played Mi.stepC r rest) = total
  s : Su G F H
  hr : RoomAt C G a r
  iv : Mi.Inv r
  hp : H p = some (.lst (told.map V.int))
  gp : G p = none
  keep : Ex H0 H
  out : ∀ c, H0 c ≠ none → G c = none
theorem w_asg {te : TE} {g : TG} {tu : TS} {D : Ends} {σ : L2.St} {H : Hp} (h : te σ H fun x H1 => g x σ H1 fun σ2 H2 => tu D σ2 H2) : tSeq (tAsg te g) tu D σ H := h
theorem w_asgN {te : TE} {i : Nat} {tu : TS} {D : Ends} {σ : L2.St} {H : Hp} (h : te σ H fun x H1 => tu D (σ.set i (some x)) H1) : tSeq (tAsg te (gName i)) tu D σ H := h
theorem w_drop {te : TE} {tu : TS} {D : Ends} {σ : L2.St} {H : Hp} (h : te σ H fun _ H1 => tu D σ H1) : tSeq (tDrop te) tu D σ H := h
theorem w_end {te : TE} {D : Ends} {σ : L2.St} {H : Hp} (h : te σ H fun _ H1 => D.nx σ H1) : tDrop te D σ H := h
theorem all2_imp {α : Type} {G : Hp} {f g : α → Rp} (h : ∀ a v, (f a).p G v → (g a).p G v) : ∀ {l : List α} {vs : List V}, All2 G (l.map f) vs → All2 G (l.map g) vs
  | [], _, q => by
    cases q
    exact .nil
  | a :: l, _, q => by
    cases q with
    | cons q t => exact .cons (h a _ q) (all2_imp h t)
theorem getD_ix {α : Type} {f : α → Rp} {l : List α} {i : Nat} {d : α} (h : i < l.length) : (l.map f)[i]? = some (f (l.getD i d)) := by
  rw [List.getElem?_map, List.getD_eq_getElem?_getD, List.getElem?_eq_getElem h]
  rfl
theorem bd_answers (T : Txt K mg C) (cs : List (List (List Int))) {F : Hp} (hv : All2 F [dInts K (PyFlat.put cs)] vs) (hk : (∀ c ∈ cs, Mi.COk c) ∧ (PyFlat.told (PyFlat.played Mi.stepC Mi.Ro.fresh cs)).length ≤ 10000000) : St (t_answers K C) (start N_answers vs) F noN (dMI (PyFlat.told (PyFlat.played Mi.stepC Mi.Ro.fresh cs))) := by
  obtain ⟨v0, rfl, hl⟩ := hv.inv1
  intro H D e q _
  generalize htot : PyFlat.told (PyFlat.played Mi.stepC Mi.Ro.fresh cs) = total at hk q
  generalize hlst : PyFlat.put cs = l at hl
  refine fun x d hx hd hne => ⟨x, d, rfl, upd_same, fun H2 pl sl hpl hsl hps g1 g2 g3 gk => ⟨rfl, ?_⟩⟩
  refine ⟨(by show 0 ≤ sizeLine; decide), fun p hp => ?_⟩
  have npx : p ≠ x := (ne_of_none g1 hp).symm
  have npl : p ≠ pl := (ne_of_none g2 hp).symm
  have nsl : p ≠ sl := (ne_of_none g3 hp).symm
  have plx : pl ≠ x := fun z => by
    rw [z, upd_same] at hpl
    cases hpl
  have slx : sl ≠ x := fun z => by
    rw [z, upd_same] at hsl
    cases hsl
  have pld : pl ≠ d := fun z => by
    rw [z, upd_ne hne, upd_same] at hpl
    cases hpl
  have sld : sl ≠ d := fun z => by
    rw [z, upd_ne hne, upd_same] at hsl
    cases hsl
  rw [upd_ne plx, upd_ne pld] at hpl
  rw [upd_ne slx, upd_ne sld] at hsl
  have keep0 : Ex H H2 := fun c o hc => by
    have n1 := ne_of_none hc hx
    have n2 := ne_of_none hc hd
    rw [gk c n1 (ne_of_none hc hpl) (ne_of_none hc hsl), upd_ne n1, upd_ne n2]
    exact hc
  have p0 : H p = none := fresh_back keep0 hp
  have w0 : WInv C F H l total x p cs (upd (upd (upd noH x (.ins C.R d (roF ⟨0, false, 0, [], []⟩ pl sl))) pl (.lst [])) sl (.lst [])) (upd H2 p (.lst [])) Mi.Ro.fresh [] [] := by
    have nn : ∀ c, c ≠ x → c ≠ pl → c ≠ sl → upd (upd (upd noH x (.ins C.R d (roF ⟨0, false, 0, [], []⟩ pl sl))) pl (.lst [])) sl (.lst []) c = none := fun c h1 h2 h3 => by
      rw [upd_ne h3, upd_ne h2, upd_ne h1]
      rfl
    have ho : ∀ c, H c ≠ none → c ≠ x ∧ c ≠ pl ∧ c ≠ sl := fun c h => ⟨fun z => h (by rw [z]; exact hx), fun z => h (by rw [z]; exact hpl), fun z => h (by rw [z]; exact hsl)⟩
    refine ⟨hlst.symm, hk.1, htot, ⟨fun c o hc => ?_, fun c o hc => ?_, fun c hc => ?_⟩, ⟨d, pl, sl, [], [], RoomL.empty ?_ ?_ ?_ hps⟩, ⟨Mi.ok_fresh (by omega), fun _ => rfl⟩, upd_same, nn p npx npl nsl, keep0.trans (Ex.new hp), fun c hc => ?_⟩
    · by_cases h3 : c = sl
      · subst h3
        rw [upd_same] at hc
        rw [upd_ne nsl.symm, g3]
        exact hc
      · rw [upd_ne h3] at hc
        by_cases h2 : c = pl
        · subst h2
          rw [upd_same] at hc
          rw [upd_ne npl.symm, g2]
          exact hc
        · rw [upd_ne h2] at hc
          by_cases h1 : c = x
          · subst h1
            rw [upd_same] at hc
            rw [upd_ne npx.symm, g1]
            exact hc
          · rw [upd_ne h1] at hc
            cases hc
    · exact Ex.new hp c o (keep0 c o (e c o hc))
    · obtain ⟨h1, h2, h3⟩ := ho c (ne_ex e hc)
      exact nn c h1 h2 h3
    · rw [upd_ne slx.symm, upd_ne plx.symm, upd_same]
    · rw [upd_ne hps, upd_same]
    · exact upd_same
    · obtain ⟨h1, h2, h3⟩ := ho c hc
      exact nn c h1 h2 h3
  refine ⟨fun m σ' H' => ∃ rest G' r pre told y4 y5 y6 y7 y8, rest.length = m ∧ WInv C F H l total x p rest G' H' r pre told ∧ σ' = [some v0, some (.ref x), some (.ref p), some (.int (pre.length : Int)), y4, y5, y6, y7, y8],
    ⟨cs.length, cs, _, _, _, _, none, none, none, none, none, rfl, w0, rfl⟩, ?_⟩
  rintro m σ' H' ⟨rest, G', r, pre, told, y4, y5, y6, y7, y8, rfl, w, rfl⟩
  have hp0 : F p = none := fresh_back e p0
  refine et_test (ev_lt (ev_var rfl) (ev_lenL (er_var rfl hl))) H' w.s.ef _ fun H1 e1 => ?_
  have hl' := hl
  rw [w.el] at hl'
  cases rest with
  | nil =>
    have hn : decide (((pre.length : Nat) : Int) < (l.length : Int)) = false := by
      refine decide_eq_false ?_
      rw [w.el]
      show ¬ ((pre.length : Int) < ((pre ++ []).length : Int))
      rw [List.append_nil]
      omega
    rw [hn, if_neg Bool.false_ne_true]
    have et := w.et
    have et2 : told = total := by
      rw [← et]
      exact (List.append_nil _).symm
    have hpH := w.hp
    rw [et2] at hpH
    refine ⟨_, rfl, q (.ref p) (upd F p (.lst (total.map V.int))) H1 ⟨Ex.new hp0, fun c o hc => ?_, w.keep.trans e1, fun c hc hn => ?_⟩ ⟨p, _, rfl, upd_same, All2.ofVals _ _⟩⟩
    · by_cases h1 : c = p
      · subst h1
        rw [upd_same] at hc
        rw [← hc]
        exact e1 c _ hpH
      · rw [upd_ne h1] at hc
        exact e1 c o (w.s.ef c o hc)
    · rw [upd_ne fun z => hn (by rw [z]; exact p0)]
      exact hc
  | cons c rest =>
    obtain ⟨k, a, xs, rfl, hc⟩ := w.ok c List.mem_cons_self
    obtain ⟨kn, ek, hk20, hna, hnx⟩ := hc.ex
    subst ek
    have hL : l = pre ++ (kn : Int) :: (a ++ PyFlat.putRows xs ++ PyFlat.put rest) := by
      rw [w.el]
      show pre ++ ((((kn : Int) :: a) ++ PyFlat.putRows xs) ++ PyFlat.put rest) = _
      simp only [List.append_assoc, List.cons_append]
    have hL2 : l = (pre ++ [(kn : Int)]) ++ a ++ (PyFlat.putRows xs ++ PyFlat.put rest) := by
      rw [hL]
      simp only [List.append_assoc, List.cons_append, List.nil_append]
    have hL3 : l = (pre ++ (kn : Int) :: a) ++ PyFlat.putRows xs ++ PyFlat.put rest := by
      rw [hL]
      simp only [List.append_assoc, List.cons_append]
    have hn : decide (((pre.length : Nat) : Int) < (l.length : Int)) = true := by
      refine decide_eq_true ?_
      rw [hL, List.length_append, List.length_cons]
      omega
    rw [hn, if_pos rfl]
    refine ⟨_, fun σ2 H2 hN => ⟨rest.length, Nat.lt_succ_self _, hN⟩, ?_⟩
    have hlA : (dInts K (pre ++ (kn : Int) :: (a ++ PyFlat.putRows xs ++ PyFlat.put rest))).p F v0 := by
      rw [← hL]
      exact hl
    have hlB : (dInts K ((pre ++ [(kn : Int)]) ++ a ++ (PyFlat.putRows xs ++ PyFlat.put rest))).p F v0 := by
      rw [← hL2]
      exact hl
    have hlC : (dInts K ((pre ++ (kn : Int) :: a) ++ PyFlat.putRows xs ++ PyFlat.put rest)).p F v0 := by
      rw [← hL3]
      exact hl
    have hNUM : ∀ G0, (dTp K (Mi.nums.map dN)).p G0 (.ref C.NUMBERS) := fun G0 => ⟨C.NUMBERS, _, rfl, T.s_NUMBERS G0, All2.ofVals (fun n : Nat => V.int (n : Int)) Mi.nums⟩
    have hROW : ∀ G0, (dTp K (Mi.rws.map dN)).p G0 (.ref C.ROWS) := fun G0 => ⟨C.ROWS, _, rfl, T.s_ROWS G0, All2.ofVals (fun n : Nat => V.int (n : Int)) Mi.rws⟩
    have s1 := w.s.more e1
    refine w_asgN ((ev_r (er_ixL (K := K) (f := dI) (n := pre.length) (a := (kn : Int)) (er_var rfl hlA) (ev_var rfl) at_len)) H1 s1.ef _ fun H2 e2 => ?_)
    have s2 := s1.more e2
    refine w_asgN ((ev_eqv (b := ((pre.length + 1 + a.length : Nat) : Int)) (ev_add (ev_add (ev_var rfl) ev_c) (ev_r (er_ixT (K := K) (R := dN (Mi.nums.getD kn 0)) (er_of ev_c (hNUM F)) (ev_var rfl) (getD_ix hk20)))) (by rw [hna]; omega)) H2 s2.ef _ fun H3 e3 => ?_)
    have s3 := s2.more e3
    have b1 : (pre ++ [(kn : Int)]).length = pre.length + 1 := by
      rw [List.length_append]
      rfl
    refine w_asgN ((er_part (K := K) (lo := pre.length + 1) (hi := pre.length + 1 + a.length) (er_var rfl hlB) (ev_eqv (ev_add (ev_var rfl) ev_c) (by omega)) (ev_var rfl) b1.symm (by rw [b1])) H3 s3.ef _ fun v6 F1 H4 g1 hv6 => ?_)
    have s4 := s3.grow g1
    have b2 : (dN (pre ++ (kn : Int) :: a).length).p F1 (.int ((pre.length + 1 + a.length : Nat) : Int)) := by
      show V.int _ = V.int _
      rw [List.length_append, List.length_cons]
      exact congrArg (fun n : Nat => V.int (n : Int)) (by omega)
    have hx9 : xs.length ≤ 1000 := by
      rw [hnx]
      have h20 : ∀ i, i < 20 → Mi.rws.getD i 0 ≤ 1000 := by decide
      exact h20 kn hk20
    have b3 : Mi.rws.getD kn 0 = xs.length := hnx.symm
    refine w_asg ((er_callM (G := F1) ((pre ++ (kn : Int) :: a, xs, PyFlat.put rest) : RArg) (ear_cons (er_var rfl (Rp.mono _ g1.gg hlC)) (ear_cons (er_var rfl b2) (ear_cons (by
      show EvR _ _ F1 (dN xs.length)
      rw [← b3]
      exact er_ixT (K := K) (er_of ev_c (hROW F1)) (ev_var rfl) (getD_ix hk20)) ear_nil))) hx9) H4 g1.gh _ fun v F2 H5 g2 hv => ?_)
    obtain ⟨ad, v7, v8, ev, hsq, hv7, hv8⟩ := tp_two hv
    have s5 := s4.grow g2
    refine tg_two (i := 7) (j := 3) ev hsq H5 g2.gh _ ?_
    have ev8 : v8 = .int (((pre ++ (kn : Int) :: a).length + (PyFlat.putRows xs).length : Nat) : Int) := hv8
    subst ev8
    have hrows : (dRowsI K xs).p F2 v7 := by
      obtain ⟨ad2, zs, rfl, hz, hzs⟩ := hv7
      exact ⟨ad2, zs, rfl, sq_of hz, all2_imp (fun _ _ h => dM_ls h) hzs⟩
    have hpn : H' p ≠ none := some_ne w.hp
    have hp1 : H3 p ≠ none := ne_ex (e1.trans (e2.trans e3)) hpn
    have hp5 : H5 p = some (.lst (told.map V.int)) := g2.hh p _ (g1.hh p _ ((e1.trans (e2.trans e3)) p _ w.hp))
    have fp1 : F1 p = none := g1.nw p hp0 hp1
    have fp2 : F2 p = none := g2.nw p fp1 (ne_ex g1.hh hp1)
    refine w_asgN (⟨_, rfl, _, rfl, _, rfl, _, rfl, x, r, ((kn : Int), a, xs), _, G', F2, rfl, s5, w.hr, w.iv.ok, .cons rfl (.cons (dM_ls (Rp.mono _ g2.gg hv6)) (.cons hrows .nil)), hc, fun v G2 G3 H6 pst hr2 hv => ?_⟩)
    obtain ⟨b, zs, rfl, hb, hzs⟩ := hv
    have ezs := All2.vals _ _ hzs
    subst ezs
    have gp2 : G2 p = none := pst.m.nw p w.gp (some_ne hp5)
    have gp3 : G3 p = none := pst.n p w.gp fp2 (some_ne hp5)
    have hp6 : H6 p = some (.lst (told.map V.int)) := pst.m.keep p _ w.gp hp5
    have hrAns : (dMI (Mi.act r (kn : Int) a xs).2).p G3 (.ref b) := ⟨b, _, rfl, hb, All2.ofVals _ _⟩
    have et := w.et
    have et2 : (told ++ [((Mi.act r (kn : Int) a xs).2.length : Int)] ++ (Mi.act r (kn : Int) a xs).2) ++ PyFlat.told (PyFlat.played Mi.stepC (Mi.act r (kn : Int) a xs).1 rest) = total := by
      rw [← et]
      show _ = told ++ (((Mi.act r (kn : Int) a xs).2.length : Int) :: (Mi.act r (kn : Int) a xs).2 ++ PyFlat.told (PyFlat.played Mi.stepC (Mi.act r (kn : Int) a xs).1 rest))
      simp only [List.append_assoc, List.cons_append, List.nil_append]
    have hlen : told.length + 1 + (Mi.act r (kn : Int) a xs).2.length ≤ 10000000 := by
      have h1 := hk.2
      rw [← et2, List.length_append, List.length_append, List.length_append] at h1
      have h2 : [((Mi.act r (kn : Int) a xs).2.length : Int)].length = 1 := rfl
      omega
    refine w_drop ⟨.ref p, rfl, Or.inl ⟨rfl, _, sq_of hp6⟩, (ev_lenM (er_var rfl hrAns)) H6 pst.e _ fun H7 e7 => ⟨p, told.map V.int, .int _, rfl, rfl, e7 p _ hp6, ?_, ?_⟩⟩
    · rw [List.length_map]
      exact Nat.lt_of_lt_of_le (show told.length < 10000001 by omega) (by decide)
    have nbp : b ≠ p := ne_of_none hb gp3
    refine w_end ⟨.ref p, rfl, Or.inl ⟨rfl, _, sq_of upd_same⟩, .ref b, rfl, p, b, _, _, rfl, rfl, upd_same, by rw [upd_ne nbp]; exact e7 b _ (pst.e b _ hb), ?_, ?_⟩
    · rw [List.length_append, List.length_map, List.length_map]
      exact Nat.le_trans (show told.length + 1 + (Mi.act r (kn : Int) a xs).2.length ≤ 10000000 from hlen) (by decide)
    have em : told.map V.int ++ [V.int ((Mi.act r (kn : Int) a xs).2.length : Int)] ++ (Mi.act r (kn : Int) a xs).2.map V.int = (told ++ [((Mi.act r (kn : Int) a xs).2.length : Int)] ++ (Mi.act r (kn : Int) a xs).2).map V.int := by
      rw [List.map_append, List.map_append]
      rfl
    have k5 : Ex H' H5 := (e1.trans (e2.trans e3)).trans (g1.hh.trans g2.hh)
    have sE : Su G2 F H7 := ⟨pst.m.gh.trans e7, fun c o hc => e7 c o (pst.m.keep c o (w.s.dj c (some_ne hc)) (k5 c o (w.s.ef c o hc))), fun c hc => pst.m.nw c (w.s.dj c hc) (ne_ex k5 (ne_ex w.s.ef hc))⟩
    refine ⟨rest, G2, (Mi.act r (kn : Int) a xs).1, pre ++ PyFlat.put1 (((kn : Int) :: a) :: xs), told ++ [((Mi.act r (kn : Int) a xs).2.length : Int)] ++ (Mi.act r (kn : Int) a xs).2, some (.int (kn : Int)), some (.int ((pre.length + 1 + a.length : Nat) : Int)), some v6, some v7, some (.ref b), rfl, ⟨?_, fun c hc => w.ok c (List.mem_cons_of_mem _ hc), et2, ?_, hr2, Mi.inv_act w.iv _ _ _, ?_, gp2, ?_, fun c hc => ?_⟩, ?_⟩
    · rw [w.el]
      show pre ++ (PyFlat.put1 (((kn : Int) :: a) :: xs) ++ PyFlat.put rest) = _
      rw [List.append_assoc]
    · rw [upd_upd]
      exact ⟨ex_wr sE.eg gp2, ex_wr sE.ef hp0, sE.dj⟩
    · rw [upd_same, em]
    · rw [upd_upd]
      intro c o hc
      rw [upd_ne (ne_of_none hc p0)]
      exact e7 c o (pst.m.keep c o (w.out c (some_ne hc)) (k5 c o (w.keep c o hc)))
    · exact pst.m.nw c (w.out c hc) (ne_ex k5 (ne_ex w.keep hc))
    · have e9 : (pre ++ (kn : Int) :: a).length + (PyFlat.putRows xs).length = (pre ++ PyFlat.put1 (((kn : Int) :: a) :: xs)).length := by
        show _ = (pre ++ (((kn : Int) :: a) ++ PyFlat.putRows xs)).length
        simp only [List.length_append, List.length_cons]
        omega
      rw [← e9]
      rfl
theorem rd_answers (T : Txt K mg C) (h : sp_answers K C vs H Q E) : t_answers K C { nx := fun _ H' => Q .non H', rt := Q } (start N_answers vs) H := mSp_rd (fun a vs G hv hk => bd_answers T a hv hk) h
end
end Sk
/-! part L1 -/
namespace Lw
open Mi
abbrev Fault := Vberac.Fault
def aMove (n : Int) : Vberac.Move := if n = -1 then .held else if n = -2 then .loose else .to n.toNat
def aRead (n : Int) : Option Nat := if n = -1 then none else some n.toNat
def aP (b : Bool) (q : Pr) : Vberac.Prop_ := ⟨q.size, if b then q.moves.map aMove else []⟩
def aS (b : Bool) (x : Se) : Vberac.Sensor := ⟨x.prop, x.error, x.first, if b then (x.readings.drop x.first).map aRead else []⟩
def aR (m : Ro) : Vberac.State := ⟨m.props.map (aP m.begun), m.sensors.map (aS m.begun), m.now, m.begun, m.most⟩
structure PrV (q : Pr) : Prop where
  mv : ∀ n ∈ q.moves, -2 ≤ n ∧ n < (q.size : Int)
  m0 : q.moves.getD 0 0 = -2
structure SeV (x : Se) : Prop where
  rd : ∀ n ∈ x.readings, -1 ≤ n
  pre : ∀ t, t < x.first → x.readings.getD t (-1) = -1
structure V (m : Ro) : Prop where
  inv : Inv m
  pr : ∀ q ∈ m.props, PrV q
  se : ∀ x ∈ m.sensors, SeV x
  p0 : m.begun = false → ∀ q ∈ m.props, q.moves = [-2]
  s0 : m.begun = false → ∀ x ∈ m.sensors, x.first = 0 ∧ x.readings = [-1]

/-! ### a sensor -/
theorem getD_ge {l : List Int} (h : ∀ n ∈ l, -1 ≤ n) (t : Nat) : -1 ≤ l.getD t (-1) := by
  rw [List.getD_eq_getElem?_getD]
  cases q : l[t]? with
  | none => exact Int.le_refl _
  | some n => exact h n (List.mem_of_getElem? q)
theorem readAt_eq (x : Se) (t : Nat) : Vberac.readAt (aS true x) t = if t < x.first then none else aRead (x.readings.getD t (-1)) := by
  unfold Vberac.readAt
  show (if t < x.first then none else (((x.readings.drop x.first).map aRead)[t - x.first]?).join) = _
  by_cases h : t < x.first
  · rw [if_pos h, if_pos h]
  · rw [if_neg h, if_neg h, List.getElem?_map, List.getElem?_drop, List.getD_eq_getElem?_getD]
    have e : x.first + (t - x.first) = t := by omega
    rw [e]
    cases x.readings[t]? with
    | none => rfl
    | some n => rfl
def near (x : Se) (o : Option Nat) (v : Nat) : Bool := match o with
  | none => true
  | some r => decide (Vberac.gap r v ≤ x.error)
theorem agrees_eq (x : Se) {n : Int} (h : -1 ≤ n) (v : Nat) : agrees x n v = near x (aRead n) v := by
  unfold agrees aRead near
  by_cases e : n = -1
  · rw [if_pos e, decide_eq_true e]
    rfl
  · rw [if_neg e, decide_eq_false e, Bool.false_or]
    refine decide_eq_decide.mpr ?_
    unfold Vberac.gap
    split <;> omega
/-- late by 1 to 3 -/
def Ft : Fault → Prop
  | .late d => 1 ≤ d ∧ d ≤ 3
  | _ => True
def allow1 (x : Se) (h : Fault) (now t v : Nat) : Bool := Vberac.allows [(aS true x, h)] now t v
theorem allow1_eq (x : Se) (h : Fault) (now t v : Nat) : allow1 x h now t v = match h with
    | .fine => near x (Vberac.readAt (aS true x) t) v
    | .stuck u => decide (u ≤ t) || near x (Vberac.readAt (aS true x) t) v
    | .late d => if now < t + d ∨ t < x.first then true else near x (Vberac.readAt (aS true x) (t + d)) v := by
  unfold allow1 Vberac.allows
  rw [List.all_cons, List.all_nil, Bool.and_true]
  cases h <;> rfl
theorem agree_allow {x : Se} (hx : SeV x) {h : Fault} (hf : Ft h) {now t : Nat} (ht : t ≤ now) (v : Nat) : agrees x (readingAbout x (Vberac.faultRow h) t now) v = allow1 x h now t v := by
  rw [allow1_eq]
  have hm1 : agrees x (-1) v = true := by
    rw [agrees_eq x (Int.le_refl _)]
    rfl
  unfold readingAbout
  by_cases hb : t < x.first
  · rw [if_pos hb, hm1]
    cases h with
    | fine =>
      show true = near x _ v
      rw [readAt_eq, if_pos hb]
      rfl
    | stuck u =>
      show true = (decide (u ≤ t) || near x _ v)
      rw [readAt_eq, if_pos hb]
      show true = (_ || true)
      rw [Bool.or_true]
    | late d =>
      show true = if now < t + d ∨ t < x.first then true else _
      rw [if_pos (Or.inr hb)]
  · rw [if_neg hb]
    cases h with
    | fine =>
      show agrees x (if (100 : Int) ≤ 0 then _ else if (now : Int) < t + 0 then -1 else x.readings.getD (t + (0 : Int).toNat) (-1)) v = near x _ v
      rw [if_neg (by omega), if_neg (by omega), readAt_eq, if_neg hb]
      exact agrees_eq x (getD_ge hx.rd t) v
    | stuck u =>
      show agrees x (if (100 : Int) ≤ 100 + (u : Int) then (if (t : Int) < 100 + (u : Int) - 100 then x.readings.getD t (-1) else -1) else _) v = (decide (u ≤ t) || near x _ v)
      rw [if_pos (by omega), readAt_eq, if_neg hb]
      by_cases hu : u ≤ t
      · rw [if_neg (by omega), hm1, decide_eq_true hu]
        rfl
      · rw [if_pos (by omega), decide_eq_false hu, Bool.false_or]
        exact agrees_eq x (getD_ge hx.rd t) v
    | late d =>
      obtain ⟨h1, h2⟩ := hf
      show agrees x (if (100 : Int) ≤ (d : Int) then _ else if (now : Int) < t + (d : Int) then -1 else x.readings.getD (t + (d : Int).toNat) (-1)) v = if now < t + d ∨ t < x.first then true else near x _ v
      rw [if_neg (by omega), Int.toNat_natCast]
      by_cases hn : now < t + d
      · rw [if_pos (by omega), if_pos (Or.inl hn), hm1]
      · rw [if_neg (by omega), if_neg (fun q => q.elim hn hb), readAt_eq, if_neg (by omega)]
        exact agrees_eq x (getD_ge hx.rd _) v
/-! ### sticking -/
theorem filterMap_aRead : ∀ {l : List Int}, (∀ n ∈ l, -1 ≤ n) → (l.map aRead).filterMap (fun r => r) = (l.filter fun n => !decide (n = -1)).map Int.toNat
  | [], _ => rfl
  | n :: l, h => by
    have ih := filterMap_aRead (l := l) fun a ha => h a (List.mem_cons_of_mem _ ha)
    rw [List.map_cons, List.filter_cons]
    by_cases e : n = -1
    · rw [if_neg (by rw [decide_eq_true e]; exact Bool.noConfusion), ← ih]
      have e2 : aRead n = none := if_pos e
      rw [e2]
      rfl
    · rw [if_pos (by rw [decide_eq_false e]; rfl), List.map_cons, ← ih]
      have e2 : aRead n = some n.toNat := if_neg e
      rw [e2]
      rfl
theorem alike_eq {x : Se} (hx : SeV x) {t : Nat} (ht : x.first ≤ t) : Vberac.alikeFrom (aS true x) t = canStick x t := by
  unfold Vberac.alikeFrom canStick readingsFrom
  show (match ((((x.readings.drop x.first).map aRead).drop (t - x.first)).filterMap fun r => r) with
    | [] => true
    | a :: r => r.all fun b => b == a) = _
  have e : ((x.readings.drop x.first).map aRead).drop (t - x.first) = (x.readings.drop t).map aRead := by
    rw [← List.map_drop, List.drop_drop]
    have : x.first + (t - x.first) = t := by omega
    rw [this]
  have hge : ∀ n ∈ x.readings.drop t, -1 ≤ n := fun n hn => hx.rd n (List.mem_of_mem_drop hn)
  rw [e, filterMap_aRead hge]
  have hpos : ∀ n ∈ (x.readings.drop t).filter (fun n => !decide (n = -1)), 0 ≤ n := fun n hn => by
    obtain ⟨h1, h2⟩ := List.mem_filter.mp hn
    have h3 := hge n h1
    by_cases e : n = -1
    · rw [decide_eq_true e] at h2
      cases h2
    · omega
  generalize (x.readings.drop t).filter (fun n => !decide (n = -1)) = l at hpos
  cases l with
  | nil => rfl
  | cons a r =>
    show ((r.map Int.toNat).all fun b => b == a.toNat) = ((a :: r).all fun n => decide (n = a))
    rw [List.all_cons, decide_eq_true rfl, Bool.true_and, List.all_map]
    have h0 := hpos a List.mem_cons_self
    have hr : ∀ n ∈ r, 0 ≤ n := fun n hn => hpos n (List.mem_cons_of_mem _ hn)
    clear hpos
    induction r with
    | nil => rfl
    | cons b r ih =>
      rw [List.all_cons, List.all_cons, ih fun n hn => hr n (List.mem_cons_of_mem _ hn)]
      have hb := hr b List.mem_cons_self
      have e : (((fun b => b == a.toNat) ∘ Int.toNat) b) = decide (b = a) := by
        show (b.toNat == a.toNat) = _
        by_cases q : b = a
        · rw [q, decide_eq_true rfl, beq_self_eq_true]
        · rw [decide_eq_false q, beq_eq_false_iff_ne.mpr (by omega)]
      rw [e]
theorem find_filter {α : Type} (p : α → Bool) (l : List α) : l.find? p = (l.filter p).head? := (List.head?_filter ..).symm
theorem options_eq {x : Se} (hx : SeV x) {now : Nat} (hf : x.first ≤ now + 1) : options x now = (Vberac.faultsOf (aS true x) now).map Vberac.faultRow := by
  have hs : Vberac.stuckFrom (aS true x) now = (stuckTicks x now).head?.getD (now + 1) := by
    unfold Vberac.stuckFrom stuckTicks
    show (((List.range (now + 2 - x.first)).find? fun k => Vberac.alikeFrom (aS true x) (x.first + k)).map (fun k => x.first + k) |>.getD (now + 1)) = _
    have e1 : now + 2 - x.first = (now + 1 - x.first) + 1 := by omega
    have e2 : (fun k => Vberac.alikeFrom (aS true x) (x.first + k)) = fun k => canStick x (x.first + k) := funext fun k => alike_eq hx (by omega)
    rw [e1, e2, List.range_succ, List.find?_append, List.head?_filter, List.find?_map]
    cases q : (List.range (now + 1 - x.first)).find? ((canStick x) ∘ fun i => x.first + i) with
    | some k =>
      have q2 : (List.range (now + 1 - x.first)).find? (fun k => canStick x (x.first + k)) = some k := q
      rw [q2]
      rfl
    | none =>
      have q2 : (List.range (now + 1 - x.first)).find? (fun k => canStick x (x.first + k)) = none := q
      rw [q2]
      rw [Option.none_or, List.find?_cons]
      cases canStick x (x.first + (now + 1 - x.first)) with
      | true =>
        show x.first + (now + 1 - x.first) = now + 1
        omega
      | false => rfl
  have hst : ∀ t ∈ stuckTicks x now, t ≤ now := fun t ht => by
    unfold stuckTicks at ht
    obtain ⟨k, hk, rfl⟩ := List.mem_map.mp (List.mem_filter.mp ht).1
    have := List.mem_range.mp hk
    omega
  unfold options Vberac.faultsOf
  rw [hs]
  cases q : stuckTicks x now with
  | nil =>
    show [0, 1, 2, 3] = _
    have e : decide ((([] : List Nat).head?.getD (now + 1)) ≤ now) = false := decide_eq_false (by show ¬ now + 1 ≤ now; omega)
    rw [if_neg (by rw [e]; exact Bool.noConfusion)]
    rfl
  | cons t r =>
    show [0, 100 + (t : Int), 1, 2, 3] = _
    have h2 : t ≤ now := hst t (by rw [q]; exact List.mem_cons_self)
    have e : decide (((t :: r).head?.getD (now + 1)) ≤ now) = true := decide_eq_true h2
    rw [if_pos e]
    rfl
theorem faults_ft {S : Vberac.Sensor} {now : Nat} : ∀ h ∈ Vberac.faultsOf S now, Ft h := by
  intro h hh
  unfold Vberac.faultsOf at hh
  rcases List.mem_cons.mp hh with rfl | hh
  · exact trivial
  rcases List.mem_append.mp hh with hh | hh
  · split at hh
    · rw [List.mem_singleton.mp hh]
      exact trivial
    · cases hh
  · obtain ⟨d, hd, rfl⟩ := List.mem_map.mp hh
    have := List.mem_range.mp hd
    unfold Vberac.LATEST at this
    exact ⟨by omega, by omega⟩
theorem row_zero {h : Fault} (hf : Ft h) : decide (Vberac.faultRow h = 0) = !Vberac.isFault h := by
  cases h with
  | fine => rfl
  | stuck u => exact decide_eq_false (by show ¬ (100 + (u : Int) = 0); omega)
  | late d => exact decide_eq_false (by obtain ⟨h1, _⟩ := hf; show ¬ ((d : Int) = 0); omega)
theorem count_eq : ∀ {hs : List Fault}, (∀ h ∈ hs, Ft h) → countFaults (hs.map Vberac.faultRow) = Vberac.countFaults hs
  | [], _ => rfl
  | h :: hs, hf => by
    have ih := count_eq (hs := hs) fun a ha => hf a (List.mem_cons_of_mem _ ha)
    unfold countFaults Vberac.countFaults at ih ⊢
    rw [List.map_cons, List.filter_cons, List.filter_cons, row_zero (hf h List.mem_cons_self), Bool.not_not]
    cases Vberac.isFault h with
    | true => exact congrArg (· + 1) ih
    | false => exact ih
end Lw
/-! part La -/
namespace Lw
open Mi
/-! ### rows of positions -/
def rowsA (size now : Nat) (A : Nat → Nat → Bool) : List (List Nat) := (List.range (now + 1)).map fun t => (List.range size).filter (A t)
def al (size now : Nat) (xs : List Se) (hs : List Fault) : List (List Nat) := rowsA size now (Vberac.allows ((xs.map (aS true)).zip hs) now)
theorem mem_filter_c {l : List Nat} {B : Nat → Bool} {v : Nat} (h : v ∈ l) : (l.filter B).contains v = B v := by
  cases q : B v with
  | true => exact List.contains_iff_mem.mpr (List.mem_filter.mpr ⟨h, q⟩)
  | false =>
    cases q2 : (l.filter B).contains v with
    | false => rfl
    | true =>
      have := (List.mem_filter.mp (List.contains_iff_mem.mp q2)).2
      rw [q] at this
      cases this
theorem filter_and (l : List Nat) (A B : Nat → Bool) : (l.filter A).filter B = l.filter fun v => A v && B v := by
  rw [List.filter_filter]
  exact List.filter_congr fun a _ => Bool.and_comm _ _
theorem overlap_rows (size now : Nat) (A B : Nat → Nat → Bool) : overlap (rowsA size now A) (rowsA size now B) = rowsA size now fun t v => A t v && B t v := by
  unfold overlap rowsA
  rw [List.zip_map', List.map_map]
  refine List.map_congr_left fun t _ => ?_
  show ((List.range size).filter (A t)).filter (fun p => ((List.range size).filter (B t)).contains p) = _
  rw [filter_and]
  exact List.filter_congr fun v hv => by rw [mem_filter_c hv]
theorem rows_congr {size now : Nat} {A B : Nat → Nat → Bool} (h : ∀ t v, t ≤ now → v < size → A t v = B t v) : rowsA size now A = rowsA size now B := by
  unfold rowsA
  refine List.map_congr_left fun t ht => List.filter_congr fun v hv => h t v ?_ (List.mem_range.mp hv)
  have := List.mem_range.mp ht
  omega
theorem sight_rows {x : Se} (hx : SeV x) {h : Fault} (hf : Ft h) (size now : Nat) : sight x (Vberac.faultRow h) size now = rowsA size now (allow1 x h now) := by
  unfold sight rowsA
  refine List.map_congr_left fun t ht => List.filter_congr fun v _ => agree_allow hx hf ?_ v
  have := List.mem_range.mp ht
  omega
theorem allows_snoc {xs : List Se} {hs : List Fault} {z : Se} {f : Fault} {now t v : Nat} (h : hs.length = xs.length) : Vberac.allows (((xs ++ [z]).map (aS true)).zip (hs ++ [f])) now t v = (Vberac.allows ((xs.map (aS true)).zip hs) now t v && allow1 z f now t v) := by
  rw [List.map_append, List.zip_append (by rw [List.length_map, h])]
  unfold allow1 Vberac.allows
  rw [List.all_append]
  rfl
theorem overlap_al {size now : Nat} {xs : List Se} {hs : List Fault} {z : Se} {f : Fault} (hz : SeV z) (hf : Ft f) (h : hs.length = xs.length) : overlap (al size now xs hs) (sight z (Vberac.faultRow f) size now) = al size now (xs ++ [z]) (hs ++ [f]) := by
  rw [sight_rows hz hf]
  unfold al
  rw [overlap_rows]
  exact rows_congr fun t v _ _ => (allows_snoc h).symm
theorem whole_al {size now : Nat} : whole size now = al size now [] [] := by
  unfold whole al rowsA
  refine List.map_congr_left fun t _ => ?_
  exact (List.filter_eq_self.mpr fun a _ => rfl).symm

/-! ### ways -/
def enc (size now : Nat) (xs : List Se) (hs : List Fault) : Way := (hs.map Vberac.faultRow, al size now xs hs)
theorem filter_flat {α β : Type} (p : α → Bool) (q : β → Bool) (g : α → List β) (h : ∀ a, p a = false → ∀ b ∈ g a, q b = false) : ∀ l : List α, ((l.filter p).flatMap g).filter q = (l.flatMap g).filter q
  | [] => rfl
  | a :: l => by
    rw [List.filter_cons, List.flatMap_cons, List.filter_append, ← filter_flat p q g h l]
    cases e : p a with
    | true => rw [if_pos rfl, List.flatMap_cons, List.filter_append]
    | false =>
      have e2 : (g a).filter q = [] := List.filter_eq_nil_iff.mpr fun b hb => by
        rw [h a e b hb]
        exact Bool.false_ne_true
      rw [if_neg Bool.false_ne_true, e2]
      rfl
theorem count_app (a b : List Fault) : Vberac.countFaults (a ++ b) = Vberac.countFaults a + Vberac.countFaults b := by
  unfold Vberac.countFaults
  rw [List.filter_append, List.length_append]
def cnt (most : Nat) (h : List Fault) : Bool := decide (Vberac.countFaults h ≤ most)
theorem cnt_app {most : Nat} {a : List Fault} (h : cnt most a = false) (b : List Fault) : cnt most (a ++ b) = false := by
  have h1 := of_decide_eq_false h
  refine decide_eq_false ?_
  rw [count_app]
  omega
def rowsF (now : Nat) (xs : List Se) : List (List Fault) := Vberac.rowsOf (xs.map fun x => Vberac.faultsOf (aS true x) now)
theorem rowsF_cons (now : Nat) (z : Se) (zs : List Se) : rowsF now (z :: zs) = (Vberac.faultsOf (aS true z) now).flatMap fun f => (rowsF now zs).map fun l => f :: l := rfl
theorem widened_eq {size now most : Nat} {xs : List Se} {z : Se} (hz : SeV z) (hfz : z.first ≤ now + 1) (L : List (List Fault)) (hL : ∀ h ∈ L, h.length = xs.length ∧ ∀ f ∈ h, Ft f) :
    widened (L.map (enc size now xs)) z size now most = ((L.flatMap fun h => (Vberac.faultsOf (aS true z) now).map fun f => h ++ [f]).filter (cnt most)).map (enc size now (xs ++ [z])) := by
  induction L with
  | nil => rfl
  | cons h L ih =>
    have ih2 := ih fun a ha => hL a (List.mem_cons_of_mem _ ha)
    obtain ⟨h1, h2⟩ := hL h List.mem_cons_self
    unfold widened at ih2 ⊢
    rw [List.map_cons, List.flatMap_cons, ih2, List.flatMap_cons, List.filter_append, List.map_append]
    refine congrArg (· ++ _) ?_
    rw [options_eq hz hfz, List.filter_map, List.map_map, List.filter_map, List.map_map]
    have e1 : (Vberac.faultsOf (aS true z) now).filter ((fun f => decide (countFaults ((enc size now xs h).1 ++ [f]) ≤ most)) ∘ Vberac.faultRow) = (Vberac.faultsOf (aS true z) now).filter (cnt most ∘ fun f => h ++ [f]) := List.filter_congr fun f hf => by
      show decide (countFaults (h.map Vberac.faultRow ++ [Vberac.faultRow f]) ≤ most) = decide (Vberac.countFaults (h ++ [f]) ≤ most)
      have e : h.map Vberac.faultRow ++ [Vberac.faultRow f] = (h ++ [f]).map Vberac.faultRow := by
        rw [List.map_append]
        rfl
      rw [e, count_eq fun a ha => by
        rcases List.mem_append.mp ha with q | q
        · exact h2 a q
        · rw [List.mem_singleton.mp q]
          exact faults_ft f hf]
    rw [e1]
    refine List.map_congr_left fun f hf => ?_
    have hft := faults_ft f (List.mem_filter.mp hf).1
    show (h.map Vberac.faultRow ++ [Vberac.faultRow f], overlap (al size now xs h) (sight z (Vberac.faultRow f) size now)) = ((h ++ [f]).map Vberac.faultRow, al size now (xs ++ [z]) (h ++ [f]))
    rw [overlap_al hz hft h1, List.map_append]
    rfl
theorem fold_eq {size now most : Nat} : ∀ (zs xs : List Se) (L : List (List Fault)), (∀ z ∈ zs, SeV z ∧ z.first ≤ now + 1) → (∀ h ∈ L, (h.length = xs.length ∧ ∀ f ∈ h, Ft f) ∧ cnt most h = true) →
    zs.foldl (fun ps x => widened ps x size now most) (L.map (enc size now xs)) = ((L.flatMap fun h => (rowsF now zs).map fun r => h ++ r).filter (cnt most)).map (enc size now (xs ++ zs))
  | [], xs, L, _, hL => by
    have e : (L.flatMap fun h => (rowsF now []).map fun r => h ++ r) = L := by
      show (L.flatMap fun h => [h ++ []]) = L
      simp only [List.append_nil]
      exact List.flatMap_singleton' L
    rw [e, List.append_nil, List.filter_eq_self.mpr fun h hh => (hL h hh).2]
    rfl
  | z :: zs, xs, L, hz, hL => by
    have hz1 := hz z List.mem_cons_self
    rw [List.foldl_cons, widened_eq hz1.1 hz1.2 L fun h hh => (hL h hh).1]
    rw [fold_eq zs (xs ++ [z]) _ (fun a ha => hz a (List.mem_cons_of_mem _ ha)) fun h hh => ?_]
    · have e : xs ++ [z] ++ zs = xs ++ z :: zs := by
        rw [List.append_assoc]
        rfl
      rw [e, filter_flat (cnt most) (cnt most) _ fun a ha b hb => by
        obtain ⟨r, _, rfl⟩ := List.mem_map.mp hb
        exact cnt_app ha r]
      refine congrArg (fun l => (List.filter (cnt most) l).map (enc size now (xs ++ z :: zs))) ?_
      rw [List.flatMap_assoc]
      refine congrArg (fun g => L.flatMap g) (funext fun h => ?_)
      rw [rowsF_cons, List.map_flatMap, List.flatMap_map]
      refine congrArg (fun g => (Vberac.faultsOf (aS true z) now).flatMap g) (funext fun f => ?_)
      rw [List.map_map]
      refine List.map_congr_left fun r _ => ?_
      show h ++ [f] ++ r = h ++ f :: r
      rw [List.append_assoc]
      rfl
    · obtain ⟨h1, h2⟩ := List.mem_filter.mp hh
      obtain ⟨g, hg, h3⟩ := List.mem_flatMap.mp h1
      obtain ⟨f, hf, rfl⟩ := List.mem_map.mp h3
      obtain ⟨⟨q1, q2⟩, _⟩ := hL g hg
      refine ⟨⟨by rw [List.length_append, List.length_append, q1]; rfl, fun a ha => ?_⟩, h2⟩
      rcases List.mem_append.mp ha with q | q
      · exact q2 a q
      · rw [List.mem_singleton.mp q]
        exact faults_ft f hf
theorem fold_start {size now most : Nat} {zs : List Se} (hz : ∀ z ∈ zs, SeV z ∧ z.first ≤ now + 1) : zs.foldl (fun ps x => widened ps x size now most) [([], whole size now)] = ((rowsF now zs).filter (cnt most)).map (enc size now zs) := by
  have h := fold_eq (size := size) (now := now) (most := most) zs [] [[]] hz fun h hh => by
    rw [List.mem_singleton.mp hh]
    exact ⟨⟨rfl, fun f hf => (by cases hf)⟩, decide_eq_true (Nat.zero_le _)⟩
  rw [whole_al]
  refine Eq.trans (show _ = _ from h) ?_
  have e : ([[]].flatMap fun h => (rowsF now zs).map fun r => h ++ r) = rowsF now zs := by
    rw [List.flatMap_cons, List.flatMap_nil, List.append_nil]
    exact List.map_id' _
  rw [e]
  rfl
theorem rowsF_ok {now : Nat} : ∀ {xs : List Se} {h : List Fault}, h ∈ rowsF now xs → h.length = xs.length ∧ ∀ f ∈ h, Ft f
  | [], h, hh => by
    rw [List.mem_singleton.mp (show h ∈ [[]] from hh)]
    exact ⟨rfl, fun f hf => (by cases hf)⟩
  | z :: zs, h, hh => by
    rw [rowsF_cons] at hh
    obtain ⟨f, hf, h2⟩ := List.mem_flatMap.mp hh
    obtain ⟨r, hr, rfl⟩ := List.mem_map.mp h2
    obtain ⟨q1, q2⟩ := rowsF_ok hr
    refine ⟨congrArg (· + 1) q1, fun a ha => ?_⟩
    rcases List.mem_cons.mp ha with q | q
    · rw [q]
      exact faults_ft f hf
    · exact q2 a q
end Lw
/-! part Lb -/
namespace Lw
open Mi
/-! ### courses -/
def G (size : Nat) (ms : List Int) (A : Nat → Nat → Bool) : Nat → Nat → Bool
  | 0, v => A 0 v
  | t + 1, v => A (t + 1) v && comes ((List.range size).filter (G size ms A t)) (ms.getD (t + 1) 0) v
abbrev rowG (size : Nat) (ms : List Int) (A : Nat → Nat → Bool) (t : Nat) : List Nat := (List.range size).filter (G size ms A t)
theorem rows_at {size now : Nat} {A : Nat → Nat → Bool} {t : Nat} (h : t ≤ now) : (rowsA size now A).getD t [] = (List.range size).filter (A t) := by
  unfold rowsA
  rw [List.getD_eq_getElem?_getD, List.getElem?_map, List.getElem?_range (by omega)]
  rfl
theorem fwd_G {size now : Nat} {ms : List Int} {A : Nat → Nat → Bool} : ∀ {t : Nat}, t ≤ now → fwd ms (rowsA size now A) t = rowG size ms A t
  | 0, h => by
    show (rowsA size now A).getD 0 [] = _
    rw [rows_at h]
    rfl
  | t + 1, h => by
    show ((rowsA size now A).getD (t + 1) []).filter (comes (fwd ms (rowsA size now A) t) (ms.getD (t + 1) 0)) = _
    rw [rows_at h, fwd_G (by omega), filter_and]
    rfl
theorem getLastD_concat {α : Type} (l : List α) (a b : α) : (l ++ [a]).getLastD b = a := by
  rw [List.getLastD_eq_getLast?, List.getLast?_concat]
  rfl
theorem move_at {q : Pr} {t : Nat} (h : t < q.moves.length) : (aP true q).moves.getD t .held = aMove (q.moves.getD t 0) := by
  show (q.moves.map aMove).getD t .held = _
  rw [List.getD_eq_getElem?_getD, List.getElem?_map, List.getD_eq_getElem?_getD, List.getElem?_eq_getElem h]
  rfl
theorem move_ge {q : Pr} (hq : PrV q) {t : Nat} (h : t < q.moves.length) : -2 ≤ q.moves.getD t 0 ∧ q.moves.getD t 0 < (q.size : Int) := by
  rw [List.getD_eq_getElem?_getD, List.getElem?_eq_getElem h]
  exact hq.mv _ (List.getElem_mem h)
theorem range_one {size v : Nat} (h : v < size) (A : Nat → Bool) : [v].filter A = (List.range size).filter fun p => A p && decide (p = v) := by
  induction size with
  | zero => omega
  | succ n ih =>
    rw [List.range_succ, List.filter_append]
    by_cases e : v = n
    · subst e
      have e1 : (List.range v).filter (fun p => A p && decide (p = v)) = [] := List.filter_eq_nil_iff.mpr fun a ha => by
        have := List.mem_range.mp ha
        rw [decide_eq_false (by omega), Bool.and_false]
        exact Bool.false_ne_true
      rw [e1, List.filter_cons, List.filter_cons, decide_eq_true rfl, Bool.and_true]
      rfl
    · rw [← ih (by omega), List.filter_cons (x := n), decide_eq_false (fun z => e z.symm), Bool.and_false]
      exact (List.append_nil _).symm
theorem empty_len {l : List Nat} : l.isEmpty = !decide (0 < l.length) := by
  cases l with
  | nil => rfl
  | cons a r => rfl
theorem into_eq {q : Pr} (hq : PrV q) {t : Nat} (ht : t + 1 < q.moves.length) (B A : Nat → Bool) : (Vberac.into (aP true q) (t + 1) ((List.range q.size).filter B)).filter A = (List.range q.size).filter fun v => A v && comes ((List.range q.size).filter B) (q.moves.getD (t + 1) 0) v := by
  unfold Vberac.into
  rw [move_at ht]
  obtain ⟨h1, h2⟩ := move_ge hq ht
  generalize q.moves.getD (t + 1) 0 = m at h1 h2
  show (match aMove m with
    | .held => if t + 1 = 0 then List.range q.size else (List.range q.size).filter B
    | .to v => if t + 1 = 0 ∨ ((List.range q.size).filter B).isEmpty = false then (if v < q.size then [v] else []) else []
    | .loose => if t + 1 = 0 ∨ ((List.range q.size).filter B).isEmpty = false then List.range q.size else []).filter A = _
  unfold aMove comes
  by_cases m1 : m = -1
  · rw [if_pos m1]
    show (if t + 1 = 0 then List.range q.size else (List.range q.size).filter B).filter A = _
    rw [if_neg (by omega), filter_and]
    refine List.filter_congr fun v hv => ?_
    rw [if_pos m1, mem_filter_c hv, Bool.and_comm]
  · rw [if_neg m1]
    by_cases m2 : m = -2
    · rw [if_pos m2]
      show (if t + 1 = 0 ∨ ((List.range q.size).filter B).isEmpty = false then List.range q.size else []).filter A = _
      have e : (fun v => A v && (if m = -1 then ((List.range q.size).filter B).contains v else if m = -2 then decide (0 < ((List.range q.size).filter B).length) else decide (0 < ((List.range q.size).filter B).length) && decide ((v : Int) = m))) = fun v => A v && decide (0 < ((List.range q.size).filter B).length) := funext fun v => by rw [if_neg m1, if_pos m2]
      rw [e, empty_len]
      cases decide (0 < ((List.range q.size).filter B).length) with
      | true =>
        rw [if_pos (show t + 1 = 0 ∨ (!true) = false from Or.inr rfl)]
        exact List.filter_congr fun v _ => (Bool.and_true _).symm
      | false =>
        rw [if_neg (fun z => z.elim (by omega) (fun y => by cases y))]
        exact (List.filter_eq_nil_iff.mpr fun v _ => by rw [Bool.and_false]; exact Bool.false_ne_true).symm
    · rw [if_neg m2]
      show (if t + 1 = 0 ∨ ((List.range q.size).filter B).isEmpty = false then (if m.toNat < q.size then [m.toNat] else []) else []).filter A = _
      have e : (fun v => A v && (if m = -1 then ((List.range q.size).filter B).contains v else if m = -2 then decide (0 < ((List.range q.size).filter B).length) else decide (0 < ((List.range q.size).filter B).length) && decide ((v : Int) = m))) = fun v => (A v && decide (v = m.toNat)) && decide (0 < ((List.range q.size).filter B).length) := funext fun v => by
        have e3 : decide ((v : Int) = m) = decide (v = m.toNat) := decide_eq_decide.mpr (by omega)
        rw [if_neg m1, if_neg m2, e3, Bool.and_assoc, Bool.and_comm (decide (v = m.toNat))]
      rw [e, empty_len]
      cases decide (0 < ((List.range q.size).filter B).length) with
      | true =>
        rw [if_pos (show t + 1 = 0 ∨ (!true) = false from Or.inr rfl), if_pos (by omega), range_one (size := q.size) (by omega)]
        exact List.filter_congr fun v _ => (Bool.and_true _).symm
      | false =>
        rw [if_neg (fun z => z.elim (by omega) (fun y => by cases y))]
        exact (List.filter_eq_nil_iff.mpr fun v _ => by rw [Bool.and_false]; exact Bool.false_ne_true).symm
theorem forward_G {q : Pr} (hq : PrV q) (l : List (Vberac.Sensor × Fault)) (now : Nat) : ∀ {k : Nat}, k ≤ q.moves.length → Vberac.forward (aP true q) l now k = (List.range k).map (rowG q.size q.moves (Vberac.allows l now))
  | 0, _ => rfl
  | k + 1, h => by
    have ih := forward_G hq l now (k := k) (by omega)
    show Vberac.forward (aP true q) l now k ++ [(Vberac.into (aP true q) k ((Vberac.forward (aP true q) l now k).getLastD [])).filter (Vberac.allows l now k)] = _
    rw [ih, List.range_succ, List.map_append]
    refine congrArg (fun z => (List.range k).map (rowG q.size q.moves (Vberac.allows l now)) ++ [z]) ?_
    cases k with
    | zero =>
      show (Vberac.into (aP true q) 0 []).filter _ = (List.range q.size).filter _
      unfold Vberac.into
      rw [move_at (by omega), hq.m0]
      show (if (0 : Nat) = 0 ∨ ([] : List Nat).isEmpty = false then List.range q.size else []).filter _ = _
      rw [if_pos (Or.inl rfl)]
      rfl
    | succ t =>
      rw [List.range_succ, List.map_append]
      show (Vberac.into (aP true q) (t + 1) ((List.map _ (List.range t) ++ [rowG q.size q.moves (Vberac.allows l now) t]).getLastD [])).filter _ = _
      rw [getLastD_concat, into_eq hq (by omega)]
      rfl
theorem possible_eq {q : Pr} (hq : PrV q) {now : Nat} (hl : q.moves.length = now + 1) (l : List (Vberac.Sensor × Fault)) : Vberac.possible (aP true q) l now = hasCourse q.moves (rowsA q.size now (Vberac.allows l now)) := by
  unfold Vberac.possible hasCourse
  rw [forward_G hq l now (by omega), List.range_succ, List.map_append, hl, Nat.add_sub_cancel, fwd_G (Nat.le_refl _)]
  show (!((List.map _ _ ++ [rowG q.size q.moves (Vberac.allows l now) now]).getLastD []).isEmpty) = _
  rw [getLastD_concat, empty_len, Bool.not_not]
/-! ### from the last tick backward -/
theorem bwd_sub {size now : Nat} {ms : List Int} (hl : ms.length = now + 1) {A : Nat → Nat → Bool} : ∀ {k : Nat}, k ≤ now → ∀ v ∈ bwd ms (rowsA size now A) k, v ∈ rowG size ms A (now - k)
  | 0, _, v, hv => by
    have hv2 : v ∈ fwd ms (rowsA size now A) (ms.length - 1) := hv
    rw [hl, Nat.add_sub_cancel, fwd_G (Nat.le_refl _)] at hv2
    exact hv2
  | k + 1, h, v, hv => by
    have hv2 : v ∈ (fwd ms (rowsA size now A) (ms.length - 2 - k)).filter _ := hv
    have e : ms.length - 2 - k = now - (k + 1) := by omega
    rw [e, fwd_G (by omega)] at hv2
    exact (List.mem_filter.mp hv2).1
theorem comes_to {bs : List Nat} {m : Int} {v : Nat} (h : comes bs m v = true) (h1 : ¬ m = -1) (h2 : ¬ m = -2) : (v : Int) = m := by
  unfold comes at h
  rw [if_neg h1, if_neg h2, Bool.and_eq_true] at h
  exact of_decide_eq_true h.2
theorem back_eq {q : Pr} (hq : PrV q) {t : Nat} (ht : t + 1 < q.moves.length) {A : Nat → Nat → Bool} {here next : List Nat} (hn : ∀ v ∈ next, v ∈ rowG q.size q.moves A (t + 1)) :
    Vberac.back (aP true q) t here next = here.filter fun p => leads p (q.moves.getD (t + 1) 0) next := by
  unfold Vberac.back
  rw [move_at ht]
  have hto : ∀ v ∈ next, comes (rowG q.size q.moves A t) (q.moves.getD (t + 1) 0) v = true := fun v hv => by
    have h1 := (List.mem_filter.mp (hn v hv)).2
    have h2 : (A (t + 1) v && comes (rowG q.size q.moves A t) (q.moves.getD (t + 1) 0) v) = true := h1
    rw [Bool.and_eq_true] at h2
    exact h2.2
  generalize q.moves.getD (t + 1) 0 = m at hto
  show (match aMove m with
    | .held => here.filter fun v => next.contains v
    | _ => if next.isEmpty = true then [] else here) = _
  unfold aMove leads
  by_cases m1 : m = -1
  · rw [if_pos m1]
    exact List.filter_congr fun v _ => (if_pos m1).symm
  · have key : (if next.isEmpty = true then [] else here) = here.filter fun p => if m = -1 then next.contains p else if m = -2 then decide (0 < next.length) else next.any fun a => decide ((a : Int) = m) := by
      have e : (fun p : Nat => if m = -1 then next.contains p else if m = -2 then decide (0 < next.length) else next.any fun a => decide ((a : Int) = m)) = fun _ => !next.isEmpty := funext fun p => by
        rw [if_neg m1, empty_len, Bool.not_not]
        by_cases m2 : m = -2
        · rw [if_pos m2]
        · rw [if_neg m2]
          cases next with
          | nil => rfl
          | cons a r => exact List.any_eq_true.mpr ⟨a, List.mem_cons_self, decide_eq_true (comes_to (hto a List.mem_cons_self) m1 m2)⟩
      rw [e]
      cases next.isEmpty with
      | true =>
        rw [if_pos rfl]
        exact (List.filter_eq_nil_iff.mpr fun v _ => Bool.false_ne_true).symm
      | false =>
        rw [if_neg Bool.false_ne_true]
        exact (List.filter_eq_self.mpr fun v _ => rfl).symm
    rw [if_neg m1]
    by_cases m2 : m = -2
    · rw [if_pos m2]
      exact key
    · rw [if_neg m2]
      exact key
/-- the rows from tick t on, the last k + 1 of them -/
theorem through_eq {q : Pr} (hq : PrV q) {now : Nat} (hl : q.moves.length = now + 1) {A : Nat → Nat → Bool} : ∀ {k : Nat}, k ≤ now →
    Vberac.throughout (aP true q) (now - k) ((List.range' (now - k) (k + 1)).map (rowG q.size q.moves A)) = ((List.range (k + 1)).map (bwd q.moves (rowsA q.size now A))).reverse
  | 0, _ => by
    show [rowG q.size q.moves A (now - 0)] = [fwd q.moves (rowsA q.size now A) (q.moves.length - 1)]
    rw [hl, Nat.add_sub_cancel, fwd_G (Nat.le_refl _), Nat.sub_zero]
  | k + 1, h => by
    have ih := through_eq hq hl (A := A) (k := k) (by omega)
    have e1 : now - k = now - (k + 1) + 1 := by omega
    rw [List.range'_succ, List.map_cons]
    have e2 : (List.range (k + 1 + 1)).map (bwd q.moves (rowsA q.size now A)) = (List.range (k + 1)).map (bwd q.moves (rowsA q.size now A)) ++ [bwd q.moves (rowsA q.size now A) (k + 1)] := by
      rw [List.range_succ, List.map_append]
      rfl
    rw [e2, List.reverse_append, ← ih]
    have e3 : ∃ r, Vberac.throughout (aP true q) (now - k) ((List.range' (now - k) (k + 1)).map (rowG q.size q.moves A)) = bwd q.moves (rowsA q.size now A) k :: r := by
      rw [ih, List.range_succ, List.map_append, List.reverse_append]
      exact ⟨_, rfl⟩
    obtain ⟨r, e3⟩ := e3
    rw [e1] at e3
    show (match Vberac.throughout (aP true q) (now - (k + 1) + 1) ((List.range' (now - (k + 1) + 1) (k + 1)).map (rowG q.size q.moves A)) with
      | [] => rowG q.size q.moves A (now - (k + 1))
      | n :: _ => Vberac.back (aP true q) (now - (k + 1)) (rowG q.size q.moves A (now - (k + 1))) n) :: Vberac.throughout (aP true q) (now - (k + 1) + 1) ((List.range' (now - (k + 1) + 1) (k + 1)).map (rowG q.size q.moves A)) = [bwd q.moves (rowsA q.size now A) (k + 1)] ++ Vberac.throughout (aP true q) (now - k) ((List.range' (now - k) (k + 1)).map (rowG q.size q.moves A))
    rw [e1, e3]
    show Vberac.back (aP true q) (now - (k + 1)) (rowG q.size q.moves A (now - (k + 1))) (bwd q.moves (rowsA q.size now A) k) :: _ = (fwd q.moves (rowsA q.size now A) (q.moves.length - 2 - k)).filter (fun p => leads p (q.moves.getD (q.moves.length - 1 - k) 0) (bwd q.moves (rowsA q.size now A) k)) :: _
    have e4 : q.moves.length - 2 - k = now - (k + 1) := by omega
    have e5 : q.moves.length - 1 - k = now - (k + 1) + 1 := by omega
    rw [back_eq hq (by omega) (A := A) (fun v hv => by
      have := bwd_sub (size := q.size) hl (by omega) v hv
      rw [e1] at this
      exact this), e4, e5, fwd_G (by omega)]
    rfl
theorem course_eq {q : Pr} (hq : PrV q) {now : Nat} (hl : q.moves.length = now + 1) (l : List (Vberac.Sensor × Fault)) : Vberac.course (aP true q) l now = seats q.moves (rowsA q.size now (Vberac.allows l now)) := by
  unfold Vberac.course seats
  rw [forward_G hq l now (by omega), hl]
  have h := through_eq hq hl (A := Vberac.allows l now) (k := now) (Nat.le_refl _)
  rw [Nat.sub_self, ← List.range_eq_range'] at h
  exact h
/-! ### the least course -/
theorem leastOf_eq (l : List Nat) : (Vberac.leastOf l).getD 0 = leastN l := by
  cases l <;> rfl
theorem leads_goes {m : Int} {p n : Nat} (h : m = -1 ∨ m = -2 ∨ (n : Int) = m) : leads p m [n] = goes m p n := by
  unfold leads goes
  by_cases m1 : m = -1
  · rw [if_pos m1, if_pos m1]
    show [n].contains p = (p == n)
    rw [List.contains_cons]
    show (p == n || false) = _
    rw [Bool.or_false]
  · rw [if_neg m1, if_neg m1]
    by_cases m2 : m = -2
    · rw [if_pos m2, decide_eq_true m2]
      rfl
    · rw [if_neg m2, decide_eq_false m2, Bool.false_or]
      show (decide ((n : Int) = m) || false) = _
      rw [Bool.or_false]
      exact decide_eq_decide.mpr ⟨fun e => e.symm, fun e => e.symm⟩
theorem lst_in {q : Pr} (hq : PrV q) {now : Nat} (hl : q.moves.length = now + 1) {A : Nat → Nat → Bool} (h0 : hasCourse q.moves (rowsA q.size now A) = true) : ∀ {k : Nat}, k ≤ now → lst q.moves (rowsA q.size now A) k ∈ rowG q.size q.moves A (now - k)
  | 0, _ => by
    show leastN (fwd q.moves (rowsA q.size now A) (q.moves.length - 1)) ∈ _
    unfold hasCourse at h0
    have h1 := of_decide_eq_true h0
    rw [hl, Nat.add_sub_cancel, fwd_G (Nat.le_refl _)] at h1 ⊢
    exact (Sk.leastN_mem (List.length_pos_iff.mp h1)).1
  | k + 1, h => by
    have ih := lst_in hq hl h0 (k := k) (by omega)
    have e1 : now - k = now - (k + 1) + 1 := by omega
    rw [e1] at ih
    have e4 : q.moves.length - 2 - k = now - (k + 1) := by omega
    have e5 : q.moves.length - 1 - k = now - (k + 1) + 1 := by omega
    show leastN ((fwd q.moves (rowsA q.size now A) (q.moves.length - 2 - k)).filter fun p => goes (q.moves.getD (q.moves.length - 1 - k) 0) p (lst q.moves (rowsA q.size now A) k)) ∈ _
    rw [e4, e5, fwd_G (by omega)]
    have h1 : (A (now - (k + 1) + 1) (lst q.moves (rowsA q.size now A) k) && comes (rowG q.size q.moves A (now - (k + 1))) (q.moves.getD (now - (k + 1) + 1) 0) (lst q.moves (rowsA q.size now A) k)) = true := (List.mem_filter.mp ih).2
    rw [Bool.and_eq_true] at h1
    have hc := h1.2
    generalize q.moves.getD (now - (k + 1) + 1) 0 = m at hc
    generalize lst q.moves (rowsA q.size now A) k = n at hc
    generalize rowG q.size q.moves A (now - (k + 1)) = row at hc
    have hne : row.filter (fun p => goes m p n) ≠ [] := by
      unfold comes at hc
      unfold goes
      by_cases m1 : m = -1
      · rw [if_pos m1] at hc
        have hm := List.contains_iff_mem.mp hc
        refine List.ne_nil_of_mem (List.mem_filter.mpr ⟨hm, ?_⟩)
        rw [if_pos m1, beq_self_eq_true]
      · rw [if_neg m1] at hc
        have hp : 0 < row.length := by
          by_cases m2 : m = -2
          · rw [if_pos m2] at hc
            exact of_decide_eq_true hc
          · rw [if_neg m2, Bool.and_eq_true] at hc
            exact of_decide_eq_true hc.1
        obtain ⟨w, hw⟩ := List.exists_mem_of_length_pos hp
        refine List.ne_nil_of_mem (List.mem_filter.mpr ⟨hw, ?_⟩)
        rw [if_neg m1]
        by_cases m2 : m = -2
        · rw [decide_eq_true m2]
          rfl
        · rw [if_neg m2, Bool.and_eq_true] at hc
          rw [decide_eq_true (of_decide_eq_true hc.2).symm, Bool.or_true]
    exact (List.mem_filter.mp (Sk.leastN_mem hne).1).1
theorem pick_eq {q : Pr} (hq : PrV q) {now : Nat} (hl : q.moves.length = now + 1) {A : Nat → Nat → Bool} (h0 : hasCourse q.moves (rowsA q.size now A) = true) : ∀ (j k : Nat), k + 1 + j = now + 1 →
    Vberac.pickBack (aP true q) (now - (k + 1)) (((List.range j).map (rowG q.size q.moves A)).reverse) (some (lst q.moves (rowsA q.size now A) k)) = ((List.range' (k + 1) j).map (lst q.moves (rowsA q.size now A))).reverse
  | 0, k, _ => rfl
  | j + 1, k, h => by
    have e1 : now - (k + 1) = j := by omega
    rw [List.range_succ, List.map_append, List.reverse_append, List.range'_succ, List.map_cons, List.reverse_cons]
    show Vberac.pickBack (aP true q) (now - (k + 1) - 1) (((List.range j).map (rowG q.size q.moves A)).reverse) (some ((Vberac.leastOf (Vberac.back (aP true q) (now - (k + 1)) (rowG q.size q.moves A j) [lst q.moves (rowsA q.size now A) k])).getD 0)) ++ [(Vberac.leastOf (Vberac.back (aP true q) (now - (k + 1)) (rowG q.size q.moves A j) [lst q.moves (rowsA q.size now A) k])).getD 0] = _
    have hin := lst_in hq hl h0 (k := k) (by omega)
    have e2 : now - k = now - (k + 1) + 1 := by omega
    rw [e2] at hin
    have e4 : q.moves.length - 2 - k = j := by omega
    have e5 : q.moves.length - 1 - k = j + 1 := by omega
    have ev : (Vberac.leastOf (Vberac.back (aP true q) (now - (k + 1)) (rowG q.size q.moves A j) [lst q.moves (rowsA q.size now A) k])).getD 0 = lst q.moves (rowsA q.size now A) (k + 1) := by
      rw [leastOf_eq, back_eq hq (by omega) (A := A) (fun v hv => by
        rw [List.mem_singleton.mp hv]
        exact hin)]
      show _ = leastN ((fwd q.moves (rowsA q.size now A) (q.moves.length - 2 - k)).filter fun p => goes (q.moves.getD (q.moves.length - 1 - k) 0) p (lst q.moves (rowsA q.size now A) k))
      rw [e4, e5, fwd_G (by omega), e1]
      refine congrArg leastN (List.filter_congr fun p _ => leads_goes ?_)
      have h1 : (A (now - (k + 1) + 1) (lst q.moves (rowsA q.size now A) k) && comes (rowG q.size q.moves A (now - (k + 1))) (q.moves.getD (now - (k + 1) + 1) 0) (lst q.moves (rowsA q.size now A) k)) = true := (List.mem_filter.mp hin).2
      rw [Bool.and_eq_true, e1] at h1
      by_cases m1 : q.moves.getD (j + 1) 0 = -1
      · exact .inl m1
      · by_cases m2 : q.moves.getD (j + 1) 0 = -2
        · exact .inr (.inl m2)
        · exact .inr (.inr (comes_to h1.2 m1 m2))
    rw [ev]
    have ih := pick_eq hq hl h0 j (k + 1) (by omega)
    have e6 : now - (k + 1) - 1 = now - (k + 1 + 1) := by omega
    rw [e6, ih, List.map_cons, List.reverse_cons]
theorem explain_eq {q : Pr} (hq : PrV q) {now : Nat} (hl : q.moves.length = now + 1) (l : List (Vberac.Sensor × Fault)) (h0 : hasCourse q.moves (rowsA q.size now (Vberac.allows l now)) = true) :
    Vberac.pickBack (aP true q) now (Vberac.forward (aP true q) l now (now + 1)).reverse none = leastCourse q.moves (rowsA q.size now (Vberac.allows l now)) := by
  rw [forward_G hq l now (by omega), List.range_succ, List.map_append, List.reverse_append]
  show Vberac.pickBack (aP true q) (now - 1) (((List.range now).map (rowG q.size q.moves (Vberac.allows l now))).reverse) (some ((Vberac.leastOf (rowG q.size q.moves (Vberac.allows l now) now)).getD 0)) ++ [(Vberac.leastOf (rowG q.size q.moves (Vberac.allows l now) now)).getD 0] = _
  have ev : (Vberac.leastOf (rowG q.size q.moves (Vberac.allows l now) now)).getD 0 = lst q.moves (rowsA q.size now (Vberac.allows l now)) 0 := by
    rw [leastOf_eq]
    show _ = leastN (fwd q.moves (rowsA q.size now (Vberac.allows l now)) (q.moves.length - 1))
    rw [hl, Nat.add_sub_cancel, fwd_G (Nat.le_refl _)]
  rw [ev, show now - 1 = now - (0 + 1) from rfl, pick_eq hq hl h0 now 0 (by omega)]
  unfold leastCourse
  rw [hl, List.range_eq_range', List.range'_succ, List.map_cons, List.reverse_cons]
end Lw
/-! part Lc -/
namespace Lw
open Mi
/-! ### a prop's sensors, its ways -/
theorem snd_filter {α : Type} (f : α → Bool) : ∀ (i : List Nat) (l : List α), i.length = l.length → ((i.zip l).filter fun x => f x.2).map (fun x => x.2) = l.filter f
  | [], [], _ => rfl
  | [], _ :: _, h => by cases h
  | _ :: _, [], h => by cases h
  | a :: i, b :: l, h => by
    have ih := snd_filter f i l (by simpa using h)
    rw [List.zip_cons_cons, List.filter_cons, List.filter_cons]
    show List.map _ (if f b = true then _ else _) = _
    cases f b with
    | true =>
      rw [if_pos rfl, if_pos rfl, List.map_cons, ih]
    | false =>
      rw [if_neg Bool.false_ne_true, if_neg Bool.false_ne_true, ih]
theorem sens_eq (m : Ro) (p : Nat) : (Vberac.sensorsOf (aR m) p).map (fun x => x.2) = (sensorsOf m p).map (aS m.begun) := by
  unfold Vberac.sensorsOf
  show ((((List.range (m.sensors.map (aS m.begun)).length).zip (m.sensors.map (aS m.begun))).filter fun x => x.2.prop == p).map fun x => x.2) = _
  rw [snd_filter (fun x : Vberac.Sensor => x.prop == p) _ _ (by rw [List.length_range]), List.filter_map]
  rfl
theorem sens_len (m : Ro) (p : Nat) : (Vberac.sensorsOf (aR m) p).length = (sensorsOf m p).length := by
  have h := congrArg List.length (sens_eq m p)
  rw [List.length_map, List.length_map] at h
  exact h
theorem prop_at {m : Ro} {p : Nat} (h : p < m.props.length) : m.props[p]? = some (prAt m p) := by
  unfold prAt
  rw [List.getD_eq_getElem?_getD, List.getElem?_eq_getElem h]
  rfl
theorem sensor_at {m : Ro} {i : Nat} (h : i < m.sensors.length) : m.sensors[i]? = some (seAt m i) := by
  unfold seAt
  rw [List.getD_eq_getElem?_getD, List.getElem?_eq_getElem h]
  rfl
theorem aprop_at {m : Ro} {p : Nat} (h : p < m.props.length) : (aR m).props[p]? = some (aP m.begun (prAt m p)) := by
  show (m.props.map (aP m.begun))[p]? = _
  rw [List.getElem?_map, prop_at h]
  rfl
theorem asensor_at {m : Ro} {i : Nat} (h : i < m.sensors.length) : (aR m).sensors[i]? = some (aS m.begun (seAt m i)) := by
  show (m.sensors.map (aS m.begun))[i]? = _
  rw [List.getElem?_map, sensor_at h]
  rfl
def E (m : Ro) (p : Nat) (h : List Fault) : Way := enc (prAt m p).size m.now (sensorsOf m p) h
section
variable {m : Ro} (v : V m) (hb : m.begun = true)
include v
theorem prv {p : Nat} (h : p < m.props.length) : PrV (prAt m p) := v.pr _ (List.mem_of_getElem? (prop_at h))
theorem prl {p : Nat} (h : p < m.props.length) : (prAt m p).moves.length = m.now + 1 := (pr_at v.inv.ok h).2.2
theorem sev {p : Nat} : ∀ z ∈ sensorsOf m p, SeV z ∧ z.first ≤ m.now + 1 := fun z hz => by
  have h1 := (List.mem_filter.mp hz).1
  exact ⟨v.se z h1, (v.inv.ok.se z h1).2.2.1⟩
include hb
theorem ways_def {p : Nat} (hp : p < m.props.length) (k : Nat) : Vberac.ways (aR m) p k = (rowsF m.now (sensorsOf m p)).filter fun h => cnt k h && hasCourse (prAt m p).moves (E m p h).2 := by
  unfold Vberac.ways
  rw [aprop_at hp, hb]
  show ((Vberac.rowsOf (((Vberac.sensorsOf (aR m) p).map fun x => x.2).map fun x => Vberac.faultsOf x m.now)).filter fun h => decide (Vberac.countFaults h ≤ k) && Vberac.possible (aP true (prAt m p)) (((Vberac.sensorsOf (aR m) p).map fun x => x.2).zip h) m.now) = _
  rw [sens_eq, hb, List.map_map]
  refine List.filter_congr fun h _ => ?_
  rw [possible_eq (prv v hp) (prl v hp)]
  rfl
theorem ways_mem {p : Nat} (hp : p < m.props.length) {k : Nat} {h : List Fault} (hh : h ∈ Vberac.ways (aR m) p k) : (h.length = (sensorsOf m p).length ∧ ∀ f ∈ h, Ft f) ∧ hasCourse (prAt m p).moves (E m p h).2 = true ∧ h ∈ rowsF m.now (sensorsOf m p) := by
  rw [ways_def v hb hp] at hh
  obtain ⟨h1, h2⟩ := List.mem_filter.mp hh
  rw [Bool.and_eq_true] at h2
  exact ⟨rowsF_ok h1, h2.2, h1⟩
theorem possible_ways {p : Nat} (hp : p < m.props.length) : possible m p = (Vberac.ways (aR m) p m.most).map (E m p) := by
  unfold possible
  rw [fold_start (fun z hz => sev v z hz), List.filter_map, List.filter_filter, ways_def v hb hp]
  refine congrArg (fun l => List.map (E m p) l) (List.filter_congr fun h _ => ?_)
  exact Bool.and_comm _ _
theorem ways_le {p : Nat} (hp : p < m.props.length) {k : Nat} (hk : k ≤ m.most) : Vberac.ways (aR m) p k = (Vberac.ways (aR m) p m.most).filter (cnt k) := by
  rw [ways_def v hb hp, ways_def v hb hp, List.filter_filter]
  refine List.filter_congr fun h _ => ?_
  rw [← Bool.and_assoc]
  refine congrArg (· && _) ?_
  unfold cnt
  by_cases q : Vberac.countFaults h ≤ k
  · rw [decide_eq_true q, decide_eq_true (Nat.le_trans q hk)]
    rfl
  · rw [decide_eq_false q]
    rfl
end
/-! ### fewest -/
def fI (o : Option Nat) : Int := match o with
  | none => -1
  | some n => (n : Int)
theorem fI_ge (o : Option Nat) : -1 ≤ fI o := by
  cases o with
  | none => exact Int.le_refl _
  | some n =>
    show -1 ≤ (n : Int)
    omega
def comb (b o : Option Nat) : Option Nat := match b, o with
  | some x, some y => some (x + y)
  | _, _ => none
theorem comb_none : ∀ L : List (Option Nat), L.foldl comb none = none
  | [] => rfl
  | o :: L => by
    rw [List.foldl_cons]
    exact comb_none L
theorem comb_some : ∀ (L : List (Option Nat)) (a : Nat), L.foldl comb (some a) = if (L.map fI).contains (-1) = true then none else some (a + (L.map fI).sum.toNat)
  | [], a => rfl
  | none :: L, a => by
    rw [List.foldl_cons]
    show L.foldl comb none = _
    rw [comb_none, List.map_cons, if_pos]
    rw [List.contains_cons]
    rfl
  | some n :: L, a => by
    rw [List.foldl_cons]
    show L.foldl comb (some (a + n)) = _
    rw [comb_some L (a + n), List.map_cons, List.contains_cons, List.sum_cons]
    have e : ((-1 : Int) == fI (some n)) = false := beq_eq_false_iff_ne.mpr (by show ¬ (-1 : Int) = (n : Int); omega)
    rw [e, Bool.false_or]
    by_cases q : (L.map fI).contains (-1) = true
    · rw [if_pos q, if_pos q]
    · rw [if_neg q, if_neg q]
      refine congrArg some ?_
      have hs : 0 ≤ (L.map fI).sum := by
        clear e
        induction L with
        | nil => exact Int.le_refl _
        | cons o L ih =>
          rw [List.map_cons, List.contains_cons, Bool.or_eq_true] at q
          rw [List.map_cons, List.sum_cons]
          have h1 := ih fun z => q (.inr z)
          have h2 := fI_ge o
          have h3 : ¬ fI o = -1 := fun z => q (.inl (by rw [z]; rfl))
          omega
      show a + n + _ = a + ((n : Int) + (L.map fI).sum).toNat
      omega
theorem sum_ge : ∀ {L : List Int}, ¬ L.contains (-1) = true → (∀ n ∈ L, -1 ≤ n) → 0 ≤ L.sum ∧ ∀ n ∈ L, n ≤ L.sum ∧ 0 ≤ n
  | [], _, _ => ⟨Int.le_refl _, fun n h => by cases h⟩
  | a :: L, q, h => by
    rw [List.contains_cons, Bool.or_eq_true] at q
    have h1 := h a List.mem_cons_self
    have h3 : ¬ a = -1 := fun z => q (.inl (by rw [z]; rfl))
    obtain ⟨h4, h5⟩ := sum_ge (L := L) (fun z => q (.inr z)) fun n hn => h n (List.mem_cons_of_mem _ hn)
    rw [List.sum_cons]
    refine ⟨by omega, fun n hn => ?_⟩
    rcases List.mem_cons.mp hn with rfl | hn
    · omega
    · have := h5 n hn
      omega
def few (m : Ro) : List Int := (List.range m.props.length).map fun p => fI (Vberac.fewestOf (aR m) p)
theorem few_len (m : Ro) : (few m).length = m.props.length := by
  unfold few
  rw [List.length_map, List.length_range]
theorem few_at {m : Ro} {p : Nat} (hp : p < m.props.length) : (few m)[p]? = some (fI (Vberac.fewestOf (aR m) p)) := by
  unfold few
  rw [List.getElem?_map, List.getElem?_range hp]
  rfl
theorem few_ge (m : Ro) : ∀ n ∈ few m, -1 ≤ n := fun n hn => by
  obtain ⟨p, _, rfl⟩ := List.mem_map.mp hn
  exact fI_ge _
theorem all_few (m : Ro) : Vberac.fewestAll (aR m) = if (few m).contains (-1) = true then none else some (few m).sum.toNat := by
  have h := comb_some ((List.range m.props.length).map (Vberac.fewestOf (aR m))) 0
  rw [List.foldl_map, List.map_map, Nat.zero_add] at h
  refine Eq.trans ?_ h
  unfold Vberac.fewestAll
  show (List.range (m.props.map (aP m.begun)).length).foldl _ _ = _
  rw [List.length_map]
  rfl
section
variable {m : Ro} (v : V m) (hb : m.begun = true)
include v hb
theorem fewestOf_eq {p : Nat} (hp : p < m.props.length) : fewestOf (possible m p) = fI (Vberac.fewestOf (aR m) p) := by
  unfold fewestOf Vberac.fewestOf
  rw [possible_ways v hb hp]
  show (if ((Vberac.ways (aR m) p m.most).map (E m p)).length = 0 then (-1 : Int) else _) = fI (Vberac.leastOf ((Vberac.ways (aR m) p m.most).map Vberac.countFaults))
  have e : ((Vberac.ways (aR m) p m.most).map (E m p)).map (fun w => countFaults w.1) = (Vberac.ways (aR m) p m.most).map Vberac.countFaults := by
    rw [List.map_map]
    exact List.map_congr_left fun h hh => count_eq (ways_mem v hb hp hh).1.2
  rw [e, List.length_map]
  cases Vberac.ways (aR m) p m.most with
  | nil => rfl
  | cons a r => rfl
theorem each_eq : fewestEach (allPossible m) = few m := by
  unfold fewestEach allPossible few
  rw [List.map_map]
  exact List.map_congr_left fun p hp => fewestOf_eq v hb (List.mem_range.mp hp)
theorem some_eq : something (few m) m.most = (Vberac.fewestAll (aR m)).any fun a => decide (a ≤ m.most) := by
  unfold something
  rw [all_few]
  by_cases q : (few m).contains (-1) = true
  · rw [if_pos q, q]
    rfl
  · rw [if_neg q]
    have h := (sum_ge q (few_ge m)).1
    have e : (few m).contains (-1) = false := by
      cases z : (few m).contains (-1) with
      | true => exact (q z).elim
      | false => rfl
    rw [e]
    show decide ((few m).sum ≤ (m.most : Int)) = decide ((few m).sum.toNat ≤ m.most)
    exact decide_eq_decide.mpr (by omega)
theorem canBe_eq : canBe m = (Vberac.fewestAll (aR m)).any fun a => decide (a ≤ m.most) := by
  unfold canBe
  rw [each_eq v hb, some_eq v hb]
theorem left_eq {p : Nat} (hp : p < m.props.length) : leftOf m p = (Vberac.possibleWays (aR m) p).map (E m p) := by
  have ep : (allPossible m)[p]? = some (possible m p) := by
    unfold allPossible
    rw [List.getElem?_map, List.getElem?_range hp]
    rfl
  unfold leftOf allLeft Vberac.possibleWays Vberac.budget
  simp only
  rw [each_eq v hb]
  by_cases q : something (few m) m.most = true
  · rw [if_pos q]
    have q2 := q
    unfold something at q2
    rw [Bool.and_eq_true] at q2
    have q3 : ¬ (few m).contains (-1) = true := fun z => by
      rw [z] at q2
      exact Bool.noConfusion q2.1
    have q4 := of_decide_eq_true q2.2
    obtain ⟨h1, h2⟩ := sum_ge q3 (few_ge m)
    obtain ⟨h3, h4⟩ := h2 _ (List.mem_of_getElem? (few_at hp))
    rw [all_few, if_neg q3, List.getD_eq_getElem?_getD, List.getElem?_map]
    have ez : ((allPossible m).zip (few m))[p]? = some (possible m p, fI (Vberac.fewestOf (aR m) p)) := List.getElem?_zip_eq_some.mpr ⟨ep, few_at hp⟩
    rw [ez]
    show atMost (possible m p) ((m.most : Int) - ((few m).sum - fI (Vberac.fewestOf (aR m) p))) = _
    cases ef : Vberac.fewestOf (aR m) p with
    | none =>
      rw [ef] at h4
      exact absurd (show (0 : Int) ≤ -1 from h4) (by omega)
    | some b =>
      rw [ef] at h3
      have h5 : (b : Int) ≤ (few m).sum := h3
      show _ = List.map (E m p) (match (if (few m).sum.toNat ≤ m.most then some (m.most - ((few m).sum.toNat - b)) else none) with
        | none => []
        | some k => Vberac.ways (aR m) p k)
      rw [if_pos (by omega)]
      show _ = (Vberac.ways (aR m) p (m.most - ((few m).sum.toNat - b))).map (E m p)
      rw [ways_le v hb hp (Nat.sub_le _ _), possible_ways v hb hp]
      unfold atMost
      rw [List.filter_map]
      refine congrArg (fun l => List.map (E m p) l) (List.filter_congr fun h hh => ?_)
      show decide ((countFaults (h.map Vberac.faultRow) : Int) ≤ (m.most : Int) - ((few m).sum - (b : Int))) = cnt _ h
      rw [count_eq (ways_mem v hb hp hh).1.2]
      unfold cnt
      exact decide_eq_decide.mpr (by omega)
  · rw [if_neg q, List.getD_eq_getElem?_getD, List.getElem?_map, ep]
    show [] = _
    have e : (match (match Vberac.fewestAll (aR m), Vberac.fewestOf (aR m) p with
      | some a, some b => if a ≤ (aR m).most then some ((aR m).most - (a - b)) else none
      | _, _ => none) with
      | none => ([] : List (List Fault))
      | some k => Vberac.ways (aR m) p k) = [] := by
      rw [some_eq v hb] at q
      cases z : Vberac.fewestAll (aR m) with
      | none => rfl
      | some a =>
        rw [z] at q
        have q2 : ¬ a ≤ m.most := fun y => q (decide_eq_true y)
        cases Vberac.fewestOf (aR m) p with
        | none => rfl
        | some b =>
          show (match (if a ≤ m.most then some (m.most - (a - b)) else none) with
            | none => ([] : List (List Fault))
            | some k => Vberac.ways (aR m) p k) = []
          rw [if_neg q2]
    exact (congrArg (List.map (E m p)) e).symm
theorem pw_mem {p : Nat} (hp : p < m.props.length) {h : List Fault} (hh : h ∈ Vberac.possibleWays (aR m) p) : (h.length = (sensorsOf m p).length ∧ ∀ f ∈ h, Ft f) ∧ hasCourse (prAt m p).moves (E m p h).2 = true ∧ h ∈ rowsF m.now (sensorsOf m p) := by
  unfold Vberac.possibleWays at hh
  cases z : Vberac.budget (aR m) p with
  | none =>
    rw [z] at hh
    cases hh
  | some k =>
    rw [z] at hh
    exact ways_mem v hb hp hh
theorem with_eq {p : Nat} (h : List Fault) : Vberac.withFaults (aR m) p h = ((sensorsOf m p).map (aS true)).zip h := by
  unfold Vberac.withFaults
  rw [sens_eq, hb]
theorem E_rows {p : Nat} (h : List Fault) : (E m p h).2 = rowsA (prAt m p).size m.now (Vberac.allows (Vberac.withFaults (aR m) p h) m.now) := by
  rw [with_eq v hb]
  rfl
theorem course_E {p : Nat} (hp : p < m.props.length) (h : List Fault) : Vberac.course (aP true (prAt m p)) (Vberac.withFaults (aR m) p h) m.now = seats (prAt m p).moves (E m p h).2 := by
  rw [course_eq (prv v hp) (prl v hp), E_rows v hb]
end
end Lw
/-! part Ld -/
namespace Lw
open Mi
theorem isProp_eq (m : Ro) (p : Int) : Vberac.isProp (aR m) p = isProp m p := by
  unfold Vberac.isProp Vberac.from_ isProp
  show decide (0 ≤ p ∧ p ≤ ((m.props.map (aP m.begun)).length : Int) - 1) = _
  rw [List.length_map, Bool.decide_and]
  exact congrArg (_ && ·) (decide_eq_decide.mpr (by omega))
theorem isSensor_eq (m : Ro) (p : Int) : Vberac.isSensor (aR m) p = isSensor m p := by
  unfold Vberac.isSensor Vberac.from_ isSensor
  show decide (0 ≤ p ∧ p ≤ ((m.sensors.map (aS m.begun)).length : Int) - 1) = _
  rw [List.length_map, Bool.decide_and]
  exact congrArg (_ && ·) (decide_eq_decide.mpr (by omega))
theorem no3 {α : Type} {b : Bool} {x y : α} (h : b = true) : (if b = false then x else y) = y := if_neg (by rw [h]; exact Bool.noConfusion)
theorem no3f {α : Type} {b : Bool} {x y : α} (h : b = false) : (if b = false then x else y) = x := if_pos h
theorem bcases (b : Bool) : b = true ∨ b = false := by cases b <;> simp
theorem asked_eq {m : Ro} {ok b : Bool} {l l' : List Int} (h : ok = b) (hl : b = true → m.begun = true → l = l') : Vberac.asked (aR m) ok l = (aR m, if b = false then [-1] else if m.begun = false then [-3] else 0 :: l') := by
  unfold Vberac.asked
  subst h
  cases ok with
  | false => rfl
  | true =>
    rw [no3 rfl, no3 rfl]
    show (if m.begun = false then Vberac.no (aR m) 3 else Vberac.yes (aR m) l) = _
    rcases bcases m.begun with hb | hb
    · rw [no3 hb, no3 hb, hl rfl hb]
      rfl
    · rw [no3f hb, no3f hb]
      rfl
/-! ### sorted positions -/
theorem putNum_eq (a : Nat) (P : Nat → Bool) : ∀ (n s : Nat), s ≤ a → a < s + n → Vberac.putNum a ((List.range' s n).filter P) = (List.range' s n).filter fun x => x == a || P x
  | 0, s, h1, h2 => by omega
  | n + 1, s, h1, h2 => by
    rw [List.range'_succ, List.filter_cons, List.filter_cons]
    by_cases e : s = a
    · subst e
      have hr : (List.range' (s + 1) n).filter (fun x => x == s || P x) = (List.range' (s + 1) n).filter P := List.filter_congr fun x hx => by
        have := (List.mem_range'_1.mp hx).1
        rw [beq_eq_false_iff_ne.mpr (by omega), Bool.false_or]
      rw [hr, beq_self_eq_true, Bool.true_or, if_pos rfl]
      have hgt : ∀ x ∈ (List.range' (s + 1) n).filter P, s < x := fun x hx => by
        have := (List.mem_range'_1.mp (List.mem_filter.mp hx).1).1
        omega
      generalize (List.range' (s + 1) n).filter P = R at hgt
      cases P s with
      | true =>
        rw [if_pos rfl]
        show (if s < s then _ else if s = s then s :: R else _) = _
        rw [if_neg (Nat.lt_irrefl s), if_pos rfl]
      | false =>
        rw [if_neg Bool.false_ne_true]
        cases R with
        | nil => rfl
        | cons x r =>
          show (if s < x then _ else _) = _
          rw [if_pos (hgt x List.mem_cons_self)]
    · have ih := putNum_eq a P n (s + 1) (by omega) (by omega)
      rw [beq_eq_false_iff_ne.mpr e, Bool.false_or]
      cases P s with
      | true =>
        rw [if_pos rfl, if_pos rfl]
        show (if a < s then _ else if a = s then _ else s :: Vberac.putNum a _) = _
        rw [if_neg (by omega), if_neg (by omega), ih]
      | false =>
        rw [if_neg Bool.false_ne_true, if_neg Bool.false_ne_true, ih]
theorem sorted_eq {size : Nat} : ∀ {l : List Nat}, (∀ v ∈ l, v < size) → Vberac.sorted l = (List.range size).filter fun v => l.contains v
  | [], _ => (List.filter_eq_nil_iff.mpr fun v _ => by rw [List.contains_nil]; exact Bool.false_ne_true).symm
  | a :: l, h => by
    show Vberac.putNum a (Vberac.sorted l) = _
    rw [sorted_eq fun v hv => h v (List.mem_cons_of_mem _ hv), List.range_eq_range', putNum_eq a _ size 0 (Nat.zero_le _) (by have := h a List.mem_cons_self; omega)]
    exact List.filter_congr fun x _ => (List.contains_cons ..).symm
theorem contains_flat {α : Type} (g : α → List Nat) (v : Nat) : ∀ l : List α, (l.flatMap g).contains v = l.any fun a => (g a).contains v
  | [] => rfl
  | a :: l => by
    rw [List.flatMap_cons, List.any_cons, ← contains_flat g v l]
    cases q : (g a).contains v with
    | true => exact List.contains_iff_mem.mpr (List.mem_append.mpr (.inl (List.contains_iff_mem.mp q)))
    | false =>
      rw [Bool.false_or]
      cases q2 : (l.flatMap g).contains v with
      | true => exact List.contains_iff_mem.mpr (List.mem_append.mpr (.inr (List.contains_iff_mem.mp q2)))
      | false =>
        cases q3 : (g a ++ l.flatMap g).contains v with
        | false => rfl
        | true =>
          rcases List.mem_append.mp (List.contains_iff_mem.mp q3) with z | z
          · rw [List.contains_iff_mem.mpr z] at q
            cases q
          · rw [List.contains_iff_mem.mpr z] at q2
            cases q2
theorem seats_lt {size now : Nat} {ms : List Int} (hl : ms.length = now + 1) {A : Nat → Nat → Bool} {t : Nat} : ∀ v ∈ (seats ms (rowsA size now A)).getD t [], v < size := fun v hv => by
  rw [List.getD_eq_getElem?_getD] at hv
  cases q : (seats ms (rowsA size now A))[t]? with
  | none =>
    rw [q] at hv
    cases hv
  | some row =>
    rw [q] at hv
    have h1 := List.mem_of_getElem? q
    unfold seats at h1
    rw [List.mem_reverse] at h1
    obtain ⟨k, hk, rfl⟩ := List.mem_map.mp h1
    have hk2 := List.mem_range.mp hk
    have h2 := bwd_sub (size := size) hl (by omega) v (show v ∈ bwd ms (rowsA size now A) k from hv)
    exact List.mem_range.mp (List.mem_filter.mp h2).1
theorem ints_eq (l : List Nat) : Vberac.ints l = Mi.toInts l := rfl
section
variable {m : Ro} (v : V m)
include v
theorem say_ways (p : Int) : Vberac.step (aR m) (.ways p) = (aR m, sayWays m p) := by
  show Vberac.asked (aR m) (Vberac.isProp (aR m) p) _ = _
  rw [asked_eq (l' := ((leftOf m p.toNat).length : Int) :: (leftOf m p.toNat).flatMap fun w => w.1) (isProp_eq m p) fun h1 hb => ?_]
  · rfl
  obtain ⟨n, rfl, hn⟩ := isProp_nat h1
  rw [Int.toNat_natCast, left_eq v hb hn, List.length_map, List.flatMap_map]
  rfl
theorem say_where (p t : Int) : Vberac.step (aR m) (.where_ p t) = (aR m, sayWhere m p t) := by
  show Vberac.asked (aR m) (Vberac.isProp (aR m) p && Vberac.from_ t 0 (m.now : Int)) _ = _
  rw [asked_eq (l' := Mi.toInts ((List.range (prAt m p.toNat).size).filter (stands ((leftOf m p.toNat).map fun w => (seats (prAt m p.toNat).moves w.2).getD t.toNat [])))) (b := decide (isProp m p = true ∧ 0 ≤ t ∧ t ≤ (m.now : Int))) ?_ fun h1 hb => ?_]
  · unfold sayWhere
    by_cases q : isProp m p = true ∧ 0 ≤ t ∧ t ≤ (m.now : Int)
    · rw [decide_eq_true q, no3 rfl, if_neg (show ¬ ¬ (isProp m p = true ∧ 0 ≤ t ∧ t ≤ (m.now : Int)) from fun z => z q)]
    · rw [decide_eq_false q, if_pos rfl, if_pos q]
  · rw [isProp_eq]
    unfold Vberac.from_
    show (isProp m p && decide (0 ≤ t ∧ t ≤ (m.now : Int))) = _
    rw [Bool.eq_iff_iff, Bool.and_eq_true, decide_eq_true_iff, decide_eq_true_iff]
  obtain ⟨h1, h2, h3⟩ := of_decide_eq_true h1
  obtain ⟨n, rfl, hn⟩ := isProp_nat h1
  rw [Int.toNat_natCast]
  unfold Vberac.where_
  rw [aprop_at hn, hb]
  show Vberac.ints (Vberac.sorted ((Vberac.possibleWays (aR m) n).flatMap fun h => (Vberac.course (aP true (prAt m n)) (Vberac.withFaults (aR m) n h) m.now).getD t.toNat [])) = _
  rw [ints_eq]
  have e : (fun h : List Fault => (Vberac.course (aP true (prAt m n)) (Vberac.withFaults (aR m) n h) m.now).getD t.toNat []) = fun h => (seats (prAt m n).moves (E m n h).2).getD t.toNat [] := funext fun h => by rw [course_E v hb hn]
  rw [e, sorted_eq (size := (prAt m n).size) fun w hw => ?_, left_eq v hb hn, List.map_map]
  · refine congrArg Mi.toInts (List.filter_congr fun w _ => ?_)
    rw [contains_flat]
    unfold stands
    rw [List.any_map]
    rfl
  · obtain ⟨h, hh, hw⟩ := List.mem_flatMap.mp hw
    exact seats_lt (prl v hn) w hw
theorem say_fewest : Vberac.step (aR m) .fewest = (aR m, sayFewest m) := by
  unfold sayFewest
  show (if m.begun = false then Vberac.no (aR m) 3 else _) = _
  rcases (bcases m.begun).symm with hb | hb
  · rw [no3f hb, no3f hb]
    rfl
  · rw [no3 hb, no3 hb, each_eq v hb, some_eq v hb]
    have hf := all_few m
    have hsome := some_eq v hb
    unfold something at hsome
    cases z : Vberac.fewestAll (aR m) with
    | none => rfl
    | some n =>
      rw [z] at hf hsome
      by_cases q : (few m).contains (-1) = true
      · rw [if_pos q] at hf
        cases hf
      rw [if_neg q] at hf
      have en := Option.some.inj hf
      obtain ⟨h1, h2⟩ := sum_ge q (few_ge m)
      show (if m.most < n then Vberac.no (aR m) 4 else Vberac.yes (aR m) _) = (aR m, if decide (n ≤ m.most) = false then [-4] else _)
      by_cases q2 : m.most < n
      · rw [if_pos q2, if_pos (decide_eq_false (by omega))]
        rfl
      · rw [if_neg q2, if_neg (by rw [decide_eq_true (by omega)]; exact Bool.noConfusion)]
        refine congrArg (fun l => (aR m, (0 : Int) :: l)) ?_
        refine congr (congrArg List.cons (by omega)) ?_
        show (List.range (m.props.map (aP m.begun)).length).map _ = (List.range m.props.length).map _
        rw [List.length_map]
        refine List.map_congr_left fun p hp => ?_
        have hp2 := List.mem_range.mp hp
        have h3 := h2 _ (List.mem_of_getElem? (few_at hp2))
        cases z2 : Vberac.fewestOf (aR m) p with
        | none =>
          rw [z2] at h3
          exact absurd (show (0 : Int) ≤ -1 from h3.2) (by omega)
        | some b => rfl
theorem leastN_le {l : List Nat} {a : Nat} (h : a ∈ l) : leastN l ≤ a := (Sk.leastN_mem (List.ne_nil_of_mem h)).2 a h
theorem say_explain (p : Int) : Vberac.step (aR m) (.explain p) = (aR m, sayExplain m p) := by
  unfold sayExplain
  show (if Vberac.isProp (aR m) p = false then Vberac.no (aR m) 1 else if m.begun = false then Vberac.no (aR m) 3 else _) = _
  rw [isProp_eq]
  cases h1 : isProp m p with
  | false => rfl
  | true =>
    rw [no3 rfl, no3 rfl]
    rcases (bcases m.begun).symm with hb | hb
    · rw [no3f hb, no3f hb]
      rfl
    · rw [no3 hb, no3 hb]
      obtain ⟨n, rfl, hn⟩ := isProp_nat h1
      rw [Int.toNat_natCast]
      have hl := left_eq v hb hn
      have hm := fun h hh => pw_mem v hb hn (h := h) hh
      have he : Vberac.explain (aR m) n = (match Vberac.leastOf ((Vberac.possibleWays (aR m) n).map Vberac.countFaults) with
        | none => none
        | some k => ((Vberac.possibleWays (aR m) n).find? fun h => Vberac.countFaults h == k).map fun h => (h, Vberac.pickBack (aP true (prAt m n)) m.now (Vberac.forward (aP true (prAt m n)) (Vberac.withFaults (aR m) n h) m.now (m.now + 1)).reverse none)) := by
        unfold Vberac.explain
        rw [aprop_at hn, hb]
        rfl
      rw [he]
      generalize hL : Vberac.possibleWays (aR m) n = L at hl hm
      cases L with
      | nil =>
        rw [hl]
        rfl
      | cons a r =>
        have hne : ¬ (leftOf m n).length = 0 := by
          rw [hl]
          exact fun z => by cases z
        rw [if_neg hne]
        have hcount : ∀ h ∈ a :: r, countFaults (E m n h).1 = Vberac.countFaults h := fun h hh => count_eq (hm h hh).1.2
        have hmap : ((a :: r).map (E m n)).map (fun w => countFaults w.1) = (a :: r).map Vberac.countFaults := by
          rw [List.map_map]
          exact List.map_congr_left fun h hh => hcount h hh
        have hfew : fewestOf (leftOf m n) = (leastN ((a :: r).map Vberac.countFaults) : Nat) := by
          unfold fewestOf
          rw [if_neg hne, hl, hmap]
        have hk : Vberac.leastOf ((a :: r).map Vberac.countFaults) = some (leastN ((a :: r).map Vberac.countFaults)) := rfl
        rw [hk]
        have hat : atMost (leftOf m n) (fewestOf (leftOf m n)) = ((a :: r).filter fun h => Vberac.countFaults h == leastN ((a :: r).map Vberac.countFaults)).map (E m n) := by
          unfold atMost
          rw [hfew, hl, List.filter_map]
          refine congrArg (fun l => List.map (E m n) l) (List.filter_congr fun h hh => ?_)
          have h2 := leastN_le v (List.mem_map.mpr ⟨h, hh, rfl⟩ : Vberac.countFaults h ∈ (a :: r).map Vberac.countFaults)
          show decide ((countFaults (E m n h).1 : Int) ≤ _) = _
          rw [hcount h hh]
          by_cases z : Vberac.countFaults h = leastN ((a :: r).map Vberac.countFaults)
          · rw [beq_iff_eq.mpr z, decide_eq_true (by omega)]
          · rw [beq_eq_false_iff_ne.mpr z, decide_eq_false (by omega)]
        show (match ((a :: r).find? fun h => Vberac.countFaults h == leastN ((a :: r).map Vberac.countFaults)).map _ with
          | none => Vberac.no (aR m) 4
          | some (x : List Fault × List Nat) => Vberac.yes (aR m) (x.1.map Vberac.faultRow ++ Vberac.ints x.2)) = _
        rw [find_filter]
        unfold firstFew
        rw [hat]
        have hin := (Sk.leastN_mem (l := (a :: r).map Vberac.countFaults) (fun z => by cases z)).1
        obtain ⟨h0, hh0, e0⟩ := List.mem_map.mp hin
        have hmemf : h0 ∈ (a :: r).filter fun h => Vberac.countFaults h == leastN ((a :: r).map Vberac.countFaults) := List.mem_filter.mpr ⟨hh0, beq_iff_eq.mpr e0⟩
        cases hF : (a :: r).filter fun h => Vberac.countFaults h == leastN ((a :: r).map Vberac.countFaults) with
        | nil =>
          rw [hF] at hmemf
          cases hmemf
        | cons b s =>
          have hbm : b ∈ a :: r := (List.mem_filter.mp (by rw [hF]; exact List.mem_cons_self : b ∈ (a :: r).filter fun h => Vberac.countFaults h == leastN ((a :: r).map Vberac.countFaults))).1
          have hcs := (hm b hbm).2.1
          have hex := explain_eq (prv v hn) (prl v hn) (Vberac.withFaults (aR m) n b) (by rw [← E_rows v hb]; exact hcs)
          show Vberac.yes (aR m) (b.map Vberac.faultRow ++ Vberac.ints (Vberac.pickBack (aP true (prAt m n)) m.now (Vberac.forward (aP true (prAt m n)) (Vberac.withFaults (aR m) n b) m.now (m.now + 1)).reverse none)) = (aR m, 0 :: ((E m n b).1 ++ Mi.toInts (leastCourse (prAt m n).moves (E m n b).2)))
          rw [hex, ← E_rows v hb]
          rfl
theorem say_state : Vberac.step (aR m) .state = (aR m, sayState m) := by
  unfold sayState
  show (aR m, [0, ((m.props.map (aP m.begun)).length : Int), ((m.sensors.map (aS m.begun)).length : Int), Vberac.bit m.begun, (m.now : Int), (m.most : Int)]) = _
  rw [List.length_map, List.length_map]
  rfl
theorem say_reads (i : Int) : Vberac.step (aR m) (.reads i) = (aR m, sayReads m i) := by
  show Vberac.asked (aR m) (Vberac.isSensor (aR m) i) _ = _
  rw [asked_eq (l' := ((seAt m i.toNat).first : Int) :: (seAt m i.toNat).readings.drop (seAt m i.toNat).first) (isSensor_eq m i) fun h1 hb => ?_]
  · rfl
  obtain ⟨n, rfl, hn⟩ := isSensor_nat h1
  rw [Int.toNat_natCast, asensor_at hn, hb]
  show ((seAt m n).first : Int) :: (((seAt m n).readings.drop (seAt m n).first).map aRead).map _ = _
  refine congrArg (_ :: ·) ?_
  rw [List.map_map]
  have hge : ∀ k ∈ (seAt m n).readings.drop (seAt m n).first, -1 ≤ k := fun k hk => (v.se _ (se_mem hn)).rd k (List.mem_of_mem_drop hk)
  refine Eq.trans (List.map_congr_left fun k hk => ?_) (List.map_id _)
  have h2 := hge k hk
  show (match aRead k with
    | none => (-1 : Int)
    | some v => (v : Int)) = k
  unfold aRead
  by_cases q : k = -1
  · rw [if_pos q]
    exact q.symm
  · rw [if_neg q]
    show ((k.toNat : Nat) : Int) = k
    omega
end
end Lw
/-! part Le -/
namespace Lw
open Mi
/-! ### votes -/
def cast (n : Nat) : Int := (n : Int)
theorem insert_put (r : Nat) : ∀ l : List Nat, insertI (r : Int) (l.map cast) = (Vberac.putMore r l).map cast
  | [] => rfl
  | x :: l => by
    show (if (r : Int) ≤ (x : Int) then _ else (x : Int) :: insertI (r : Int) (l.map cast)) = (if r ≤ x then r :: x :: l else x :: Vberac.putMore r l).map cast
    by_cases h : r ≤ x
    · rw [if_pos h, if_pos (by omega)]
      rfl
    · rw [if_neg h, if_neg (by omega), insert_put r l]
      rfl
theorem votes_fold {α : Type} (a : α → Int) (b : α → Option Nat) : ∀ {l : List α}, (∀ z ∈ l, -1 ≤ a z ∧ b z = aRead (a z)) → ((l.map a).filter fun n => decide (0 ≤ n)).foldr insertI [] = ((l.filterMap b).foldr Vberac.putMore []).map cast
  | [], _ => rfl
  | z :: l, h => by
    have ih := votes_fold a b (l := l) fun y hy => h y (List.mem_cons_of_mem _ hy)
    obtain ⟨h1, h2⟩ := h z List.mem_cons_self
    rw [List.map_cons, List.filter_cons]
    by_cases e : a z = -1
    · have e2 : b z = none := by rw [h2]; exact if_pos e
      rw [if_neg (by rw [decide_eq_false (by omega)]; exact Bool.noConfusion), ih, List.filterMap_cons_none e2]
    · have e2 : b z = some (a z).toNat := by rw [h2]; exact if_neg e
      rw [if_pos (decide_eq_true (by omega)), List.filterMap_cons_some e2, List.foldr_cons, List.foldr_cons, ih, ← insert_put]
      exact congrArg (fun n => insertI n _) (by omega)
section
variable {m : Ro} (v : V m)
include v
theorem votes_eq (hb : m.begun = true) (p : Nat) : votes m p = (Vberac.readings (aR m) p).map cast := by
  unfold votes sortI Vberac.readings
  have e : (Vberac.sensorsOf (aR m) p).filterMap (fun x => Vberac.readAt x.2 (aR m).now) = (sensorsOf m p).filterMap fun x => Vberac.readAt (aS true x) m.now := by
    have h := sens_eq m p
    rw [hb] at h
    have h2 := congrArg (List.filterMap fun x => Vberac.readAt x m.now) h
    rw [List.filterMap_map, List.filterMap_map] at h2
    exact h2
  rw [e]
  exact votes_fold _ _ fun z hz => by
    obtain ⟨hz1, hz2⟩ := sev v z hz
    refine ⟨getD_ge hz1.rd _, ?_⟩
    rw [readAt_eq]
    by_cases q : m.now < z.first
    · rw [if_pos q, hz1.pre _ q]
      rfl
    · rw [if_neg q]
theorem count_cast (l : List Nat) (n : Nat) : (l.map cast).count (n : Int) = (l.filter fun r => r == n).length := by
  rw [List.count_eq_countP, List.countP_map, List.countP_eq_length_filter]
  refine congrArg List.length (List.filter_congr fun r _ => ?_)
  show ((r : Int) == (n : Int)) = (r == n)
  by_cases e : r = n
  · rw [e, beq_self_eq_true, beq_self_eq_true]
  · rw [beq_eq_false_iff_ne.mpr e, beq_eq_false_iff_ne.mpr (by omega)]
theorem say_vote (p : Int) : Vberac.step (aR m) (.vote p) = (aR m, sayVote m p) := by
  unfold sayVote
  show (if Vberac.isProp (aR m) p = false then Vberac.no (aR m) 1 else if m.begun = false then Vberac.no (aR m) 3 else _) = _
  rw [isProp_eq]
  cases h1 : isProp m p with
  | false => rfl
  | true =>
    rw [no3 rfl, no3 rfl]
    rcases (bcases m.begun).symm with hb | hb
    · rw [no3f hb, no3f hb]
      rfl
    · rw [no3 hb, no3 hb, votes_eq v hb]
      show (match Vberac.middle (aR m) p.toNat with
        | none => Vberac.no (aR m) 4
        | some w => Vberac.yes (aR m) [(w : Int), ((Vberac.readings (aR m) p.toNat).length : Int), (((Vberac.readings (aR m) p.toNat).filter fun r => r == w).length : Int)]) = _
      unfold Vberac.middle
      generalize Vberac.readings (aR m) p.toNat = l
      simp only [List.length_map]
      by_cases h0 : l.length = 0
      · rw [if_pos h0]
        have e : l = [] := List.length_eq_zero_iff.mp h0
        subst e
        rfl
      · rw [if_neg h0]
        have hlt : (l.length - 1) / 2 < l.length := by omega
        rw [List.getElem?_eq_getElem hlt]
        have e : (l.map cast).getD ((l.length - 1) / 2) 0 = ((l[(l.length - 1) / 2] : Nat) : Int) := by
          rw [List.getD_eq_getElem?_getD, List.getElem?_map, List.getElem?_eq_getElem hlt]
          rfl
        rw [e, count_cast v]
        rfl
end
/-! ### checking -/
def fOf (n : Int) : Fault := (Vberac.faultIn n).getD .fine
theorem fault_in {n : Int} (h : isFault n = true) : Vberac.faultIn n = some (fOf n) ∧ Vberac.faultRow (fOf n) = n ∧ Ft (fOf n) := by
  unfold isFault at h
  rw [Bool.or_eq_true, decide_eq_true_iff, decide_eq_true_iff] at h
  unfold fOf Vberac.faultIn
  by_cases h0 : n = 0
  · rw [if_pos h0]
    exact ⟨rfl, h0.symm, trivial⟩
  · rw [if_neg h0]
    by_cases h1 : 1 ≤ n ∧ n ≤ 3
    · rw [if_pos h1]
      refine ⟨rfl, ?_, ?_⟩
      · show ((n.toNat : Nat) : Int) = n
        omega
      · show 1 ≤ n.toNat ∧ n.toNat ≤ 3
        omega
    · rw [if_neg h1, if_pos (by omega)]
      refine ⟨rfl, ?_, trivial⟩
      show 100 + (((n - 100).toNat : Nat) : Int) = n
      omega
theorem fault_out {n : Int} (h : isFault n = false) : Vberac.faultIn n = none := by
  unfold isFault at h
  rw [Bool.or_eq_false_iff, decide_eq_false_iff_not, decide_eq_false_iff_not] at h
  unfold Vberac.faultIn
  rw [if_neg (by omega), if_neg (by omega), if_neg (by omega)]
theorem faults_in : ∀ fs : List Int, Vberac.faultsIn fs = if fs.all isFault = true then some (fs.map fOf) else none
  | [] => rfl
  | n :: fs => by
    show (match Vberac.faultIn n, Vberac.faultsIn fs with
      | some h, some l => some (h :: l)
      | _, _ => none) = _
    rw [faults_in fs, List.all_cons]
    cases q : isFault n with
    | false =>
      rw [fault_out q]
      rfl
    | true =>
      rw [(fault_in q).1, Bool.true_and]
      by_cases q2 : fs.all isFault = true
      · rw [if_pos q2, if_pos q2]
        rfl
      · rw [if_neg q2, if_neg q2]
theorem all_range_getD (c : List Nat) (p : Nat → Bool) : (List.range c.length).all (fun t => p (c.getD t 0)) = c.all p := by
  rw [Bool.eq_iff_iff, List.all_eq_true, List.all_eq_true]
  refine ⟨fun h x hx => ?_, fun h t ht => ?_⟩
  · obtain ⟨i, hi⟩ := List.mem_iff_getElem?.mp hx
    have h2 := h i (List.mem_range.mpr (List.getElem?_eq_some_iff.mp hi).1)
    rw [List.getD_eq_getElem?_getD, hi] at h2
    exact h2
  · have ht2 := List.mem_range.mp ht
    refine h _ ?_
    rw [List.getD_eq_getElem?_getD, List.getElem?_eq_getElem ht2]
    exact List.getElem_mem ht2
theorem goes_eq {q : Pr} (hq : PrV q) {now : Nat} (hl : q.moves.length = now + 1) (c : List Nat) : Vberac.goes (aP true q) now c = isCourse q.moves q.size c := by
  unfold Vberac.goes isCourse
  rw [hl, Nat.add_sub_cancel]
  by_cases hc : c.length = now + 1
  · rw [beq_iff_eq.mpr hc, decide_eq_true hc, Bool.true_and, Bool.true_and, ← all_range_getD c (fun p => decide (p < q.size)), hc]
    rw [Bool.eq_iff_iff, Bool.and_eq_true, List.all_eq_true, List.all_eq_true, List.all_eq_true]
    have key : ∀ t, t < now → (match (aP true q).moves.getD (t + 1) .held with
      | .held => (t + 1 == 0) || c.getD (t + 1) 0 == c.getD (t + 1 - 1) 0
      | .to w => c.getD (t + 1) 0 == w
      | .loose => true) = goes (q.moves.getD (t + 1) 0) (c.getD t 0) (c.getD (t + 1) 0) := fun t ht => by
      rw [move_at (by omega)]
      obtain ⟨h1, h2⟩ := move_ge hq (t := t + 1) (by omega)
      generalize q.moves.getD (t + 1) 0 = n at h1 h2
      unfold aMove Mi.goes
      by_cases m1 : n = -1
      · rw [if_pos m1, if_pos m1]
        show (c.getD (t + 1) 0 == c.getD t 0) = _
        exact Bool.beq_comm
      · rw [if_neg m1, if_neg m1]
        by_cases m2 : n = -2
        · rw [if_pos m2, decide_eq_true m2]
          rfl
        · rw [if_neg m2, decide_eq_false m2, Bool.false_or]
          show (c.getD (t + 1) 0 == n.toNat) = _
          by_cases e : n = (c.getD (t + 1) 0 : Int)
          · rw [decide_eq_true e, beq_iff_eq.mpr (by omega)]
          · rw [decide_eq_false e, beq_eq_false_iff_ne.mpr (by omega)]
    refine ⟨fun h => ⟨fun t ht => ?_, fun t ht => ?_⟩, fun ⟨h1, h2⟩ t ht => ?_⟩
    · have := h t ht
      rw [Bool.and_eq_true] at this
      exact this.1
    · have ht2 := List.mem_range.mp ht
      have := h (t + 1) (List.mem_range.mpr (by omega))
      rw [Bool.and_eq_true] at this
      rw [← key t ht2]
      exact this.2
    · rw [Bool.and_eq_true]
      refine ⟨h1 t ht, ?_⟩
      cases t with
      | zero =>
        rw [move_at (by omega), hq.m0]
        rfl
      | succ t =>
        have ht2 := List.mem_range.mp ht
        exact (key t (by omega)).trans (h2 t (List.mem_range.mpr (by omega)))
  · rw [beq_eq_false_iff_ne.mpr hc, decide_eq_false hc]
    rfl
theorem mayBe_eq {x : Se} (hx : SeV x) {h : Fault} (hf : Ft h) (now : Nat) : mayHave x (Vberac.faultRow h) now = Vberac.mayBe (aS true x) now h := by
  unfold mayHave
  cases h with
  | fine => rfl
  | stuck u =>
    show (if 100 + (u : Int) < 100 then true else decide (x.first ≤ (100 + (u : Int) - 100).toNat ∧ (100 + (u : Int) - 100).toNat ≤ now) && canStick x (100 + (u : Int) - 100).toNat) = (decide (x.first ≤ u ∧ u ≤ now) && Vberac.alikeFrom (aS true x) u)
    have e : (100 + (u : Int) - 100).toNat = u := by omega
    rw [if_neg (by omega), e]
    by_cases q : x.first ≤ u ∧ u ≤ now
    · rw [alike_eq hx q.1]
    · rw [decide_eq_false q]
      rfl
  | late d =>
    obtain ⟨h1, h2⟩ := hf
    show (if (d : Int) < 100 then true else _) = decide (1 ≤ d ∧ d ≤ Vberac.LATEST)
    rw [if_pos (by omega), decide_eq_true (show 1 ≤ d ∧ d ≤ Vberac.LATEST from ⟨h1, h2⟩)]
theorem within_eq {size now : Nat} {c : List Nat} (hc : c.length = now + 1) (hs : c.all (fun p => decide (p < size)) = true) (A : Nat → Nat → Bool) : within c (rowsA size now A) = (List.range (now + 1)).all fun t => A t (c.getD t 0) := by
  unfold within
  rw [Bool.eq_iff_iff, List.all_eq_true, List.all_eq_true]
  rw [List.all_eq_true] at hs
  have hrow : ∀ t, t < now + 1 → (rowsA size now A)[t]? = some ((List.range size).filter (A t)) := fun t ht => by
    unfold rowsA
    rw [List.getElem?_map, List.getElem?_range ht]
    rfl
  have hct : ∀ t, t < now + 1 → c[t]? = some (c.getD t 0) := fun t ht => by
    rw [List.getD_eq_getElem?_getD, List.getElem?_eq_getElem (by omega)]
    rfl
  refine ⟨fun h t ht => ?_, fun h z hz => ?_⟩
  · have ht2 := List.mem_range.mp ht
    have h2 := h (c.getD t 0, (List.range size).filter (A t)) (List.mem_of_getElem? (List.getElem?_zip_eq_some.mpr ⟨hct t ht2, hrow t ht2⟩))
    exact (List.mem_filter.mp (List.contains_iff_mem.mp h2)).2
  · obtain ⟨t, ht⟩ := List.mem_iff_getElem?.mp hz
    obtain ⟨z1, z2⟩ := z
    obtain ⟨h1, h2⟩ := List.getElem?_zip_eq_some.mp ht
    have ht2 : t < now + 1 := by
      have := (List.getElem?_eq_some_iff.mp h1).1
      omega
    rw [hct t ht2] at h1
    rw [hrow t ht2] at h2
    cases h1
    cases h2
    refine List.contains_iff_mem.mpr (List.mem_filter.mpr ⟨List.mem_range.mpr ?_, h t (List.mem_range.mpr ht2)⟩)
    exact of_decide_eq_true (hs _ (List.mem_of_getElem? (hct t ht2)))
theorem near_none (x : Se) (w : Nat) : near x none w = true := rfl
theorem fits_eq {x : Se} {h : Fault} (hf : Ft h) (now : Nat) (c : List Nat) : (List.range (now + 1)).all (fun t => allow1 x h now t (c.getD t 0)) = Vberac.fits (aS true x) now h c := by
  unfold Vberac.fits
  rw [Bool.eq_iff_iff, List.all_eq_true, List.all_eq_true]
  have hm : ∀ (o : Option Nat) (w : Nat) (b : Bool), (match o with
      | none => true
      | some r => b || decide (Vberac.gap r w ≤ (aS true x).err)) = (b || near x o w) := fun o w b => by
    cases o with
    | none => cases b <;> rfl
    | some r => rfl
  cases h with
  | fine =>
    refine ⟨fun q t ht => ?_, fun q t ht => ?_⟩
    · have q1 := q t ht
      rw [allow1_eq] at q1
      exact (hm (Vberac.readAt (aS true x) t) (c.getD t 0) false).trans ((Bool.false_or _).trans q1)
    · rw [allow1_eq]
      have q1 := q t ht
      exact ((Bool.false_or _).symm.trans (hm (Vberac.readAt (aS true x) t) (c.getD t 0) false).symm).trans q1
  | stuck u =>
    refine ⟨fun q t ht => ?_, fun q t ht => ?_⟩
    · have q1 := q t ht
      rw [allow1_eq] at q1
      exact (hm (Vberac.readAt (aS true x) t) (c.getD t 0) (decide (u ≤ t))).trans q1
    · rw [allow1_eq]
      have q1 := q t ht
      exact (hm (Vberac.readAt (aS true x) t) (c.getD t 0) (decide (u ≤ t))).symm.trans q1
  | late d =>
    refine ⟨fun q t ht => ?_, fun q t ht => ?_⟩
    · have ht2 := List.mem_range.mp ht
      show (match Vberac.readAt (aS true x) t with
        | none => true
        | some r => (if t < d + x.first then true else decide (Vberac.gap r (c.getD (t - d) 0) ≤ x.error))) = true
      by_cases e : t < d + x.first
      · cases Vberac.readAt (aS true x) t with
        | none => rfl
        | some r => exact if_pos e
      · have q1 := q (t - d) (List.mem_range.mpr (by omega))
        rw [allow1_eq] at q1
        have e2 : t - d + d = t := by omega
        have q2 : (if now < t - d + d ∨ t - d < x.first then true else near x (Vberac.readAt (aS true x) (t - d + d)) (c.getD (t - d) 0)) = true := q1
        rw [if_neg (by omega), e2] at q2
        cases z : Vberac.readAt (aS true x) t with
        | none => rfl
        | some r =>
          rw [z] at q2
          exact (if_neg e).trans q2
    · rw [allow1_eq]
      show (if now < t + d ∨ t < x.first then true else near x (Vberac.readAt (aS true x) (t + d)) (c.getD t 0)) = true
      by_cases e : now < t + d ∨ t < x.first
      · rw [if_pos e]
      · rw [if_neg e]
        have q1 := q (t + d) (List.mem_range.mpr (by omega))
        have q2 : (match Vberac.readAt (aS true x) (t + d) with
          | none => true
          | some r => (if t + d < d + x.first then true else decide (Vberac.gap r (c.getD (t + d - d) 0) ≤ x.error))) = true := q1
        cases z : Vberac.readAt (aS true x) (t + d) with
        | none => rfl
        | some r =>
          rw [z] at q2
          have q3 : (if t + d < d + x.first then true else decide (Vberac.gap r (c.getD (t + d - d) 0) ≤ x.error)) = true := q2
          rw [if_neg (by omega), Nat.add_sub_cancel] at q3
          exact q3
theorem all_zip_congr {α β γ δ : Type} (f : α → γ) (g : β → δ) (p : γ × δ → Bool) (q : α × β → Bool) : ∀ {l : List α} {k : List β}, (∀ a ∈ l, ∀ b ∈ k, p (f a, g b) = q (a, b)) → ((l.map f).zip (k.map g)).all p = (l.zip k).all q
  | [], _, _ => rfl
  | _ :: _, [], _ => rfl
  | a :: l, b :: k, h => by
    rw [List.map_cons, List.map_cons, List.zip_cons_cons, List.zip_cons_cons, List.all_cons, List.all_cons, h a List.mem_cons_self b List.mem_cons_self, all_zip_congr f g p q fun x hx y hy => h x (List.mem_cons_of_mem _ hx) y (List.mem_cons_of_mem _ hy)]
section
variable {m : Ro} (v : V m)
include v
theorem explains_eq (hb : m.begun = true) {p : Nat} (hp : p < m.props.length) {fs : List Int} (hf : ∀ f ∈ fs, isFault f = true) (c : List Nat) : explains m p fs c = Vberac.explains (aR m) p (fs.map fOf) c := by
  unfold explains Vberac.explains
  rw [aprop_at hp, hb]
  show _ = ((fs.map fOf).length == ((Vberac.sensorsOf (aR m) p).map fun x => x.2).length && (Vberac.goes (aP true (prAt m p)) m.now c && (((Vberac.sensorsOf (aR m) p).map fun x => x.2).zip (fs.map fOf)).all fun x => Vberac.mayBe x.1 m.now x.2 && Vberac.fits x.1 m.now x.2 c))
  rw [sens_eq, hb, goes_eq (prv v hp) (prl v hp), List.length_map, List.length_map, Bool.and_assoc]
  have e : decide (fs.length = (sensorsOf m p).length) = (fs.length == (sensorsOf m p).length) := by
    by_cases q : fs.length = (sensorsOf m p).length
    · rw [decide_eq_true q, beq_iff_eq.mpr q]
    · rw [decide_eq_false q, beq_eq_false_iff_ne.mpr q]
  rw [e]
  refine congrArg (_ && ·) ?_
  cases hc : isCourse (prAt m p).moves (prAt m p).size c with
  | false => rfl
  | true =>
    rw [Bool.true_and, Bool.true_and]
    unfold isCourse at hc
    rw [Bool.and_eq_true, Bool.and_eq_true] at hc
    have h1 := of_decide_eq_true hc.1.1
    rw [prl v hp] at h1
    refine (all_zip_congr (aS true) fOf _ _ fun x hx f hff => ?_).symm
    obtain ⟨_, h3, h4⟩ := fault_in (hf f hff)
    obtain ⟨h5, h6⟩ := sev v x hx
    show (Vberac.mayBe (aS true x) m.now (fOf f) && Vberac.fits (aS true x) m.now (fOf f) c) = (mayHave x f m.now && within c (sight x f (prAt m p).size m.now))
    rw [← mayBe_eq h5 h4, ← fits_eq h4, ← within_eq h1 hc.1.2, ← sight_rows h5 h4, h3]
theorem say_check (p : Int) (fs c : List Int) : Vberac.step (aR m) (.check p fs c) = (aR m, sayCheck m p fs c) := by
  unfold sayCheck
  show (match Vberac.faultsIn fs with
    | none => Vberac.no (aR m) 1
    | some l => if Vberac.isProp (aR m) p = false ∨ (c.all fun v => Vberac.from_ v 0 7) = false then Vberac.no (aR m) 1 else if m.begun = false then Vberac.no (aR m) 3 else Vberac.yes (aR m) [Vberac.bit (Vberac.explains (aR m) p.toNat l (c.map Int.toNat)), (Vberac.countFaults l : Int)]) = _
  rw [faults_in, isProp_eq]
  have ec : (c.all fun v => Vberac.from_ v 0 7) = c.all fun n => decide (0 ≤ n) && decide (n ≤ 7) := by
    refine congrArg (fun f => c.all f) (funext fun n => ?_)
    unfold Vberac.from_
    exact Bool.decide_and ..
  rw [ec]
  by_cases q : fs.all isFault = true
  · rw [if_pos q]
    have hf : ∀ f ∈ fs, isFault f = true := List.all_eq_true.mp q
    show (if isProp m p = false ∨ (c.all fun n => decide (0 ≤ n) && decide (n ≤ 7)) = false then Vberac.no (aR m) 1 else if m.begun = false then Vberac.no (aR m) 3 else Vberac.yes (aR m) [Vberac.bit (Vberac.explains (aR m) p.toNat (fs.map fOf) (c.map Int.toNat)), (Vberac.countFaults (fs.map fOf) : Int)]) = _
    rcases (bcases (isProp m p)).symm with h1 | h1
    · rw [no3f h1, if_pos (Or.inl h1)]
      rfl
    · rw [no3 h1]
      rcases (bcases (c.all fun n => decide (0 ≤ n) && decide (n ≤ 7))).symm with h2 | h2
      · rw [if_pos (Or.inr h2), if_pos (show ¬ (fs.all isFault = true ∧ (c.all fun n => decide (0 ≤ n) && decide (n ≤ 7)) = true) from fun z => by rw [h2] at z; exact Bool.noConfusion z.2)]
        rfl
      · rw [if_neg (show ¬ (isProp m p = false ∨ (c.all fun n => decide (0 ≤ n) && decide (n ≤ 7)) = false) from fun z => by rw [h1, h2] at z; rcases z with z | z <;> cases z), if_neg (show ¬ ¬ (fs.all isFault = true ∧ (c.all fun n => decide (0 ≤ n) && decide (n ≤ 7)) = true) from fun z => z ⟨q, h2⟩)]
        rcases (bcases m.begun).symm with hb | hb
        · rw [no3f hb, no3f hb]
          rfl
        · rw [no3 hb, no3 hb]
          obtain ⟨n, rfl, hn⟩ := isProp_nat h1
          rw [Int.toNat_natCast, explains_eq v hb hn hf]
          have e1 : countFaults fs = Vberac.countFaults (fs.map fOf) := by
            rw [← count_eq (hs := fs.map fOf) fun h hh => by
              obtain ⟨f, hff, rfl⟩ := List.mem_map.mp hh
              exact (fault_in (hf f hff)).2.2]
            refine congrArg countFaults ?_
            rw [List.map_map]
            exact (Eq.trans (List.map_congr_left fun f hff => (fault_in (hf f hff)).2.1) (List.map_id _)).symm
          rw [e1]
          rfl
  · rw [if_neg q]
    rcases (bcases (isProp m p)).symm with h1 | h1
    · rw [no3f h1]
      rfl
    · rw [no3 h1, if_pos (show ¬ (fs.all isFault = true ∧ (c.all fun n => decide (0 ≤ n) && decide (n ≤ 7)) = true) from fun z => q z.1)]
      rfl
end
end Lw
/-! part Lf -/
namespace Lw
open Mi
/-! ### a sensor's place -/
theorem range_split {i n : Nat} (h : i < n) : List.range n = List.range i ++ i :: List.range' (i + 1) (n - i - 1) := by
  have e : n = i + ((n - i - 1) + 1) := by omega
  rw [List.range_eq_range', List.range_eq_range']
  have h2 : List.range' 0 n = List.range' 0 (i + ((n - i - 1) + 1)) := by rw [← e]
  rw [h2, ← List.range'_append_1, List.range'_succ, Nat.zero_add]
theorem findIdx_range {n i : Nat} (h : i < n) (P : Nat → Bool) (hi : P i = true) : ((List.range n).filter P).findIdx (fun j => j == i) = ((List.range i).filter P).length := by
  rw [range_split h, List.filter_append, List.filter_cons, if_pos hi, List.findIdx_append]
  have e : ((List.range i).filter P).findIdx (fun j => j == i) = ((List.range i).filter P).length := List.findIdx_eq_length.mpr fun x hx => by
    have := List.mem_range.mp (List.mem_filter.mp hx).1
    exact beq_eq_false_iff_ne.mpr (by omega)
  rw [e, if_neg (Nat.lt_irrefl _), List.findIdx_cons, beq_self_eq_true]
  show 0 + _ = _
  rw [Nat.zero_add]
theorem fst_filter {α : Type} (d : α) (f : α → Bool) (l : List α) : ((((List.range l.length).zip l).filter fun x => f x.2).map fun x => x.1) = (List.range l.length).filter fun j => f (l.getD j d) := by
  have e : (List.range l.length).zip l = (List.range l.length).map fun j => (j, l.getD j d) := by
    refine List.ext_getElem? fun j => ?_
    rw [List.getElem?_map]
    by_cases h : j < l.length
    · have h1 : (List.range l.length)[j]? = some j := List.getElem?_range h
      have h2 : l[j]? = some (l.getD j d) := by
        rw [List.getD_eq_getElem?_getD, List.getElem?_eq_getElem h]
        rfl
      rw [(List.getElem?_zip_eq_some (z := (j, l.getD j d))).mpr ⟨h1, h2⟩, h1]
      rfl
    · rw [List.getElem?_eq_none (by rw [List.length_zip, List.length_range]; omega), List.getElem?_eq_none (by rw [List.length_range]; omega)]
      rfl
  rw [e, List.filter_map, List.map_map]
  exact List.map_id' _
theorem getD_map {α β : Type} (f : α → β) (l : List α) {j : Nat} (h : j < l.length) (d : α) (d' : β) : (l.map f).getD j d' = f (l.getD j d) := by
  rw [List.getD_eq_getElem?_getD, List.getElem?_map, List.getD_eq_getElem?_getD, List.getElem?_eq_getElem h]
  rfl
theorem place_eq {m : Ro} {i : Nat} (hi : i < m.sensors.length) : ((Vberac.sensorsOf (aR m) (seAt m i).prop).map fun y => y.1).findIdx (fun j => j == i) = placeOf m i := by
  unfold Vberac.sensorsOf placeOf
  show ((((List.range (m.sensors.map (aS m.begun)).length).zip (m.sensors.map (aS m.begun))).filter fun x => x.2.prop == (seAt m i).prop).map fun x => x.1).findIdx (fun j => j == i) = _
  rw [fst_filter (aS m.begun ⟨0, 0, 0, []⟩) (fun x : Vberac.Sensor => x.prop == (seAt m i).prop), List.length_map]
  have e : (List.range m.sensors.length).filter (fun j => ((m.sensors.map (aS m.begun)).getD j (aS m.begun ⟨0, 0, 0, []⟩)).prop == (seAt m i).prop) = (List.range m.sensors.length).filter fun j => (seAt m j).prop == (seAt m i).prop := List.filter_congr fun j hj => by
    rw [getD_map _ _ (List.mem_range.mp hj) ⟨0, 0, 0, []⟩]
    rfl
  rw [e, findIdx_range hi (fun j => (seAt m j).prop == (seAt m i).prop) (beq_self_eq_true _)]
  rfl
theorem pw_get {m : Ro} (v : V m) (hb : m.begun = true) {i : Nat} (hi : i < m.sensors.length) {h : List Fault} (hh : h ∈ Vberac.possibleWays (aR m) (seAt m i).prop) : ∃ f, h[placeOf m i]? = some f ∧ f ∈ h := by
  have h1 := (pw_mem v hb (prop_lt v.inv.ok hi) hh).1.1
  have h2 := place_lt hi
  have h3 : placeOf m i < h.length := by omega
  exact ⟨h[placeOf m i], List.getElem?_eq_getElem h3, List.getElem_mem h3⟩
theorem row_get {m : Ro} {p : Nat} {h : List Fault} {k : Nat} {f : Fault} (e : h[k]? = some f) : (E m p h).1.getD k 0 = Vberac.faultRow f := by
  show (h.map Vberac.faultRow).getD k 0 = _
  rw [List.getD_eq_getElem?_getD, List.getElem?_map, e]
  rfl
/-! ### blame -/
def isStuck : Fault → Bool
  | .stuck _ => true
  | _ => false
theorem contains_any {α : Type} (g : α → Int) (k : Int) (l : List α) : (l.map g).contains k = l.any fun a => decide (g a = k) := by
  induction l with
  | nil => rfl
  | cons a l ih =>
    rw [List.map_cons, List.contains_cons, List.any_cons, ih]
    refine congrArg (· || _) ?_
    by_cases e : g a = k
    · rw [decide_eq_true e, beq_iff_eq.mpr e.symm]
    · rw [decide_eq_false e, beq_eq_false_iff_ne.mpr fun z => e z.symm]
theorem any_congr2 {α : Type} {l : List α} {p q : α → Bool} (h : ∀ a ∈ l, p a = q a) : l.any p = l.any q := by
  rw [Bool.eq_iff_iff, List.any_eq_true, List.any_eq_true]
  exact ⟨fun ⟨a, h1, h2⟩ => ⟨a, h1, (h a h1).symm.trans h2⟩, fun ⟨a, h1, h2⟩ => ⟨a, h1, (h a h1).trans h2⟩⟩
theorem all_congr2 {α : Type} {l : List α} {p q : α → Bool} (h : ∀ a ∈ l, p a = q a) : l.all p = l.all q := by
  rw [Bool.eq_iff_iff, List.all_eq_true, List.all_eq_true]
  exact ⟨fun z a h1 => (h a h1).symm.trans (z a h1), fun z a h1 => (h a h1).trans (z a h1)⟩
theorem contains_any2 (k : Fault) (l : List Fault) : l.contains k = l.any fun a => decide (a = k) := by
  induction l with
  | nil => rfl
  | cons a l ih =>
    rw [List.contains_cons, List.any_cons, ih]
    refine congrArg (· || _) ?_
    by_cases e : a = k
    · rw [decide_eq_true e, beq_iff_eq.mpr e.symm]
    · rw [decide_eq_false e, beq_eq_false_iff_ne.mpr fun z => e z.symm]
theorem five_fine {f : Fault} (hf : Ft f) : decide (placeInFive (Vberac.faultRow f) = 0) = (f == Vberac.Fault.fine) := by
  cases f with
  | fine => rfl
  | stuck u =>
    refine decide_eq_false ?_
    show ¬ (if 100 + (u : Int) = 0 then 0 else if (100 : Int) ≤ 100 + (u : Int) then 1 else _) = (0 : Int)
    rw [if_neg (by omega), if_pos (by omega)]
    omega
  | late d =>
    obtain ⟨h1, h2⟩ := hf
    refine decide_eq_false ?_
    show ¬ (if (d : Int) = 0 then 0 else if (100 : Int) ≤ (d : Int) then 1 else (d : Int) + 1) = (0 : Int)
    rw [if_neg (by omega), if_neg (by omega)]
    omega
theorem five_stuck {f : Fault} (hf : Ft f) : decide (placeInFive (Vberac.faultRow f) = 1) = isStuck f := by
  cases f with
  | fine => rfl
  | stuck u =>
    refine decide_eq_true ?_
    show (if 100 + (u : Int) = 0 then 0 else if (100 : Int) ≤ 100 + (u : Int) then 1 else _) = (1 : Int)
    rw [if_neg (by omega), if_pos (by omega)]
  | late d =>
    obtain ⟨h1, h2⟩ := hf
    refine decide_eq_false ?_
    show ¬ (if (d : Int) = 0 then 0 else if (100 : Int) ≤ (d : Int) then 1 else (d : Int) + 1) = (1 : Int)
    rw [if_neg (by omega), if_neg (by omega)]
    omega
theorem five_late {f : Fault} (hf : Ft f) {j : Nat} (hj : 1 ≤ j) : decide (placeInFive (Vberac.faultRow f) = ((j + 1 : Nat) : Int)) = decide (f = Vberac.Fault.late j) := by
  cases f with
  | fine =>
    rw [decide_eq_false fun z : Vberac.Fault.fine = Vberac.Fault.late j => by cases z]
    refine decide_eq_false ?_
    show ¬ (0 : Int) = _
    omega
  | stuck u =>
    rw [decide_eq_false fun z : Vberac.Fault.stuck u = Vberac.Fault.late j => by cases z]
    refine decide_eq_false ?_
    show ¬ (if 100 + (u : Int) = 0 then 0 else if (100 : Int) ≤ 100 + (u : Int) then 1 else _) = ((j + 1 : Nat) : Int)
    rw [if_neg (by omega), if_pos (by omega)]
    omega
  | late d =>
    obtain ⟨h1, h2⟩ := hf
    have e : placeInFive (Vberac.faultRow (Vberac.Fault.late d)) = (d : Int) + 1 := by
      show (if (d : Int) = 0 then 0 else if (100 : Int) ≤ (d : Int) then 1 else (d : Int) + 1) = _
      rw [if_neg (by omega), if_neg (by omega)]
    rw [e]
    by_cases q : d = j
    · subst q
      rw [decide_eq_true rfl, decide_eq_true (by omega)]
    · rw [decide_eq_false (by omega), decide_eq_false fun z => q (Vberac.Fault.late.inj z)]
theorem bit_eq (b : Bool) : Vberac.bit b = Mi.bit b := rfl
section
variable {m : Ro} (v : V m)
include v
/-- what a sensor can be, way by way -/
def hsOf (m : Ro) (i : Nat) : List Fault := (Vberac.possibleWays (aR m) (seAt m i).prop).filterMap fun h => h[placeOf m i]?
theorem hs_map (hb : m.begun = true) {i : Nat} (hi : i < m.sensors.length) {β : Type} (g : Fault → β) (g2 : Way → β) (hg : ∀ h f, h[placeOf m i]? = some f → g2 (E m (seAt m i).prop h) = g f) : (leftOf m (seAt m i).prop).map g2 = (hsOf m i).map g := by
  rw [left_eq v hb (prop_lt v.inv.ok hi), List.map_map]
  unfold hsOf
  have key := fun h hh => pw_get v hb hi (h := h) hh
  generalize Vberac.possibleWays (aR m) (seAt m i).prop = L at key
  induction L with
  | nil => rfl
  | cons h L ih =>
    obtain ⟨f, e, _⟩ := key h List.mem_cons_self
    rw [List.map_cons, List.filterMap_cons_some (f := fun h : List Fault => h[placeOf m i]?) e, List.map_cons, ih fun a ha => key a (List.mem_cons_of_mem _ ha)]
    exact congrArg (· :: _) (hg h f e)
theorem hs_ft (hb : m.begun = true) {i : Nat} (hi : i < m.sensors.length) : ∀ f ∈ hsOf m i, Ft f := fun f hf => by
  obtain ⟨h, hh, e⟩ := List.mem_filterMap.mp hf
  exact (pw_mem v hb (prop_lt v.inv.ok hi) hh).1.2 f (List.mem_of_getElem? e)
theorem blame_eq (hb : m.begun = true) {i : Nat} (hi : i < m.sensors.length) : Vberac.blame (aR m) i = [(hsOf m i).any fun h => h == Vberac.Fault.fine, (hsOf m i).any isStuck] ++ (List.range 3).map fun d => (hsOf m i).contains (Vberac.Fault.late (d + 1)) := by
  unfold Vberac.blame
  rw [asensor_at hi, hb]
  have e0 : (Vberac.possibleWays (aR m) (aS true (seAt m i)).prop).filterMap (fun h => h[((Vberac.sensorsOf (aR m) (aS true (seAt m i)).prop).map fun y => y.1).findIdx fun j => j == i]?) = hsOf m i := by
    show (Vberac.possibleWays (aR m) (seAt m i).prop).filterMap (fun h => h[((Vberac.sensorsOf (aR m) (seAt m i).prop).map fun y => y.1).findIdx fun j => j == i]?) = _
    rw [place_eq hi]
    rfl
  have e : (fun h : Fault => (match h with
      | .stuck _ => true
      | _ => false)) = isStuck := funext fun h => by cases h <;> rfl
  refine Eq.trans (congrArg (fun hs : List Fault => [hs.any fun h => h == Vberac.Fault.fine, hs.any fun h => (match h with
      | .stuck _ => true
      | _ => false)] ++ (List.range Vberac.LATEST).map fun d => hs.contains (Vberac.Fault.late (d + 1))) e0) ?_
  show [(hsOf m i).any fun h => h == Vberac.Fault.fine, (hsOf m i).any fun h => (match h with
      | .stuck _ => true
      | _ => false)] ++ (List.range 3).map (fun d => (hsOf m i).contains (Vberac.Fault.late (d + 1))) = _
  rw [e]
theorem say_blame (i : Int) : Vberac.step (aR m) (.blame i) = (aR m, sayBlame m i) := by
  show Vberac.asked (aR m) (Vberac.isSensor (aR m) i) _ = _
  rw [asked_eq (l' := (List.range 5).map fun (k : Nat) => Mi.bit (((leftOf m (seAt m i.toNat).prop).map fun w => placeInFive (w.1.getD (placeOf m i.toNat) 0)).contains (k : Int))) (isSensor_eq m i) fun h1 hb => ?_]
  · rfl
  obtain ⟨n, rfl, hn⟩ := isSensor_nat h1
  rw [Int.toNat_natCast, blame_eq v hb hn, hs_map v hb hn (fun f => placeInFive (Vberac.faultRow f)) (fun w => placeInFive (w.1.getD (placeOf m n) 0)) fun h f e => by rw [row_get e]]
  have hft := hs_ft v hb hn
  generalize hsOf m n = L at hft
  show [Vberac.bit (L.any fun h => h == Vberac.Fault.fine), Vberac.bit (L.any isStuck), Vberac.bit (L.contains (Vberac.Fault.late 1)), Vberac.bit (L.contains (Vberac.Fault.late 2)), Vberac.bit (L.contains (Vberac.Fault.late 3))] =
    [Mi.bit ((L.map fun f => placeInFive (Vberac.faultRow f)).contains 0), Mi.bit ((L.map fun f => placeInFive (Vberac.faultRow f)).contains 1), Mi.bit ((L.map fun f => placeInFive (Vberac.faultRow f)).contains ((1 + 1 : Nat) : Int)), Mi.bit ((L.map fun f => placeInFive (Vberac.faultRow f)).contains ((2 + 1 : Nat) : Int)), Mi.bit ((L.map fun f => placeInFive (Vberac.faultRow f)).contains ((3 + 1 : Nat) : Int))]
  rw [contains_any, contains_any, contains_any, contains_any, contains_any, any_congr2 fun f hf => five_fine (hft f hf), any_congr2 fun f hf => five_stuck (hft f hf), any_congr2 fun f hf => five_late (hft f hf) (j := 1) (by omega), any_congr2 fun f hf => five_late (hft f hf) (j := 2) (by omega), any_congr2 fun f hf => five_late (hft f hf) (j := 3) (by omega), contains_any2, contains_any2, contains_any2]
  rfl
theorem say_sure : Vberac.step (aR m) .sure = (aR m, saySure m) := by
  unfold saySure
  show (if m.begun = false then Vberac.no (aR m) 3 else if (Vberac.fewestAll (aR m)).all (fun n => decide (m.most < n)) = true then Vberac.no (aR m) 4 else _) = _
  rcases (bcases m.begun).symm with hb | hb
  · rw [no3f hb, no3f hb]
    rfl
  rw [no3 hb, no3 hb, canBe_eq v hb]
  have e : (Vberac.fewestAll (aR m)).all (fun n => decide (m.most < n)) = !(Vberac.fewestAll (aR m)).any (fun a => decide (a ≤ m.most)) := by
    cases Vberac.fewestAll (aR m) with
    | none => rfl
    | some n =>
      show decide (m.most < n) = !decide (n ≤ m.most)
      by_cases q : n ≤ m.most
      · rw [decide_eq_true q, decide_eq_false (by omega)]
        rfl
      · rw [decide_eq_false q, decide_eq_true (by omega)]
        rfl
  rw [e]
  rcases (bcases ((Vberac.fewestAll (aR m)).any (fun a => decide (a ≤ m.most)))).symm with q | q
  · rw [no3f q, q]
    rfl
  · rw [no3 q, q, if_neg (show ¬ (!true) = true from Bool.noConfusion)]
    refine congrArg (fun l => (aR m, (0 : Int) :: Mi.toInts l)) ?_
    show (List.range (m.sensors.map (aS m.begun)).length).filter _ = _
    rw [List.length_map]
    refine List.filter_congr fun i hi => ?_
    have hi2 := List.mem_range.mp hi
    rw [blame_eq v hb hi2]
    show (!(hsOf m i).any fun h => h == Vberac.Fault.fine) = neverFine m (allLeft m) i
    unfold neverFine
    show _ = (leftOf m (seAt m i).prop).all fun w => !decide (w.1.getD (placeOf m i) 0 = 0)
    have e1 := hs_map v hb hi2 (fun f => !decide (Vberac.faultRow f = 0)) (fun w => !decide (w.1.getD (placeOf m i) 0 = 0)) fun h f e => by rw [row_get e]
    have e2 := congrArg (fun l => l.all id) e1
    rw [List.all_map, List.all_map] at e2
    refine Eq.trans ?_ e2.symm
    show _ = (hsOf m i).all fun f => !decide (Vberac.faultRow f = 0)
    have hft := hs_ft v hb hi2
    rw [List.not_any_eq_all_not]
    exact all_congr2 fun f hf => by
      rw [row_zero (hft f hf)]
      cases f <;> rfl
end
end Lw
/-! part Lg -/
namespace Lw
open Mi
/-! ### since when -/
theorem ticks_eq (x : Se) (now : Nat) : stuckTicks x now = (List.range (now + 1)).filter fun t => decide (x.first ≤ t) && canStick x t := by
  unfold stuckTicks
  have e : (List.range (now + 1 - x.first)).map (fun i => x.first + i) = (List.range (now + 1)).filter fun t => decide (x.first ≤ t) := by
    by_cases h : x.first ≤ now + 1
    · have e1 : List.range (now + 1) = List.range x.first ++ (List.range (now + 1 - x.first)).map (fun i => x.first + i) := by
        have h1 : now + 1 = x.first + (now + 1 - x.first) := by omega
        have h2 := List.range_add (n := x.first) (m := now + 1 - x.first)
        rw [← h1] at h2
        exact h2
      rw [e1, List.filter_append]
      have e2 : (List.range x.first).filter (fun t => decide (x.first ≤ t)) = [] := List.filter_eq_nil_iff.mpr fun t ht => by
        have := List.mem_range.mp ht
        rw [decide_eq_false (by omega)]
        exact Bool.false_ne_true
      have e3 : ((List.range (now + 1 - x.first)).map (fun i => x.first + i)).filter (fun t => decide (x.first ≤ t)) = (List.range (now + 1 - x.first)).map (fun i => x.first + i) := List.filter_eq_self.mpr fun t ht => by
        obtain ⟨i, _, rfl⟩ := List.mem_map.mp ht
        exact decide_eq_true (by omega)
      rw [e2, e3]
      rfl
    · have e1 : now + 1 - x.first = 0 := by omega
      rw [e1]
      exact (List.filter_eq_nil_iff.mpr fun t ht => by
        have := List.mem_range.mp ht
        rw [decide_eq_false (by omega)]
        exact Bool.false_ne_true).symm
  rw [e, List.filter_filter]
  exact List.filter_congr fun t _ => Bool.and_comm _ _
theorem allows_all (xs : List Se) (h : List Fault) (now t w : Nat) : Vberac.allows ((xs.map (aS true)).zip h) now t w = (xs.zip h).all fun z => allow1 z.1 z.2 now t w := by
  unfold Vberac.allows
  rw [List.zip_map_left, List.all_map]
  refine congrArg (fun f => (xs.zip h).all f) (funext fun z => ?_)
  unfold allow1 Vberac.allows
  rw [List.all_cons, List.all_nil, Bool.and_true]
  rfl
theorem all_set {α β : Type} (g : α × β → Bool) {b : β} : ∀ {xs : List α} {h : List β} {k : Nat} {x : α} {a : β}, xs[k]? = some x → h[k]? = some a → (g (x, b) = true → g (x, a) = true) → ((xs.zip h).all g && g (x, b)) = (xs.zip (h.set k b)).all g
  | [], _, k, x, a, h1, _, _ => by simp at h1
  | _ :: _, [], k, x, a, _, h2, _ => by simp at h2
  | y :: xs, c :: h, 0, x, a, h1, h2, hi => by
    have e1 : y = x := by simpa using h1
    have e2 : c = a := by simpa using h2
    subst e1
    subst e2
    rw [List.set_cons_zero, List.zip_cons_cons, List.zip_cons_cons, List.all_cons, List.all_cons]
    cases q : g (y, b) with
    | false => rw [Bool.and_false, Bool.false_and]
    | true => rw [hi q, Bool.and_true]
  | y :: xs, c :: h, k + 1, x, a, h1, h2, hi => by
    have ih := all_set g (b := b) (xs := xs) (h := h) (k := k) (x := x) (a := a) (by simpa using h1) (by simpa using h2) hi
    rw [List.set_cons_succ, List.zip_cons_cons, List.zip_cons_cons, List.all_cons, List.all_cons, Bool.and_assoc, ih]
theorem rowsF_get {now : Nat} : ∀ {xs : List Se} {h : List Fault} {k : Nat} {x : Se}, h ∈ rowsF now xs → xs[k]? = some x → ∃ f, h[k]? = some f ∧ f ∈ Vberac.faultsOf (aS true x) now
  | [], _, k, x, _, h2 => by simp at h2
  | y :: xs, h, k, x, h1, h2 => by
    rw [rowsF_cons] at h1
    obtain ⟨f, hf, h3⟩ := List.mem_flatMap.mp h1
    obtain ⟨r, hr, rfl⟩ := List.mem_map.mp h3
    cases k with
    | zero =>
      have e1 : y = x := by simpa using h2
      subst e1
      exact ⟨f, rfl, hf⟩
    | succ k =>
      obtain ⟨g, h4, h5⟩ := rowsF_get (k := k) (x := x) hr (by simpa using h2)
      exact ⟨g, by simpa using h4, h5⟩
theorem stuck_first {x : Se} (hx : SeV x) {now u t : Nat} (hu : Vberac.Fault.stuck u ∈ Vberac.faultsOf (aS true x) now) (h1 : x.first ≤ t) (h2 : t ≤ now) (h3 : canStick x t = true) : u ≤ t := by
  unfold Vberac.faultsOf at hu
  rcases List.mem_cons.mp hu with hu | hu
  · cases hu
  rcases List.mem_append.mp hu with hu | hu
  · have e : u = Vberac.stuckFrom (aS true x) now := by
      split at hu
      · exact Vberac.Fault.stuck.inj (List.mem_singleton.mp hu)
      · cases hu
    rw [e]
    unfold Vberac.stuckFrom
    show (((List.range (now + 2 - x.first)).find? fun k => Vberac.alikeFrom (aS true x) (x.first + k)).map (fun k => x.first + k) |>.getD (now + 1)) ≤ t
    have hp : Vberac.alikeFrom (aS true x) (x.first + (t - x.first)) = true := by
      rw [show x.first + (t - x.first) = t by omega, alike_eq hx h1]
      exact h3
    cases q : (List.range (now + 2 - x.first)).find? fun k => Vberac.alikeFrom (aS true x) (x.first + k) with
    | none =>
      have h4 := List.find?_eq_none.mp q (t - x.first) (List.mem_range.mpr (by omega))
      exact (h4 hp).elim
    | some k =>
      show x.first + k ≤ t
      by_cases e : k ≤ t - x.first
      · omega
      · have h5 := (List.find?_range_eq_some.mp q).2.2 (t - x.first) (by omega)
        rw [hp] at h5
        cases h5
  · obtain ⟨d, _, hd⟩ := List.mem_map.mp hu
    cases hd
theorem allow_stuck {x : Se} {u t now tt w : Nat} (h : u ≤ t) (q : allow1 x (.stuck t) now tt w = true) : allow1 x (.stuck u) now tt w = true := by
  rw [allow1_eq] at q ⊢
  have q2 : (decide (t ≤ tt) || near x (Vberac.readAt (aS true x) tt) w) = true := q
  show (decide (u ≤ tt) || near x (Vberac.readAt (aS true x) tt) w) = true
  rw [Bool.or_eq_true] at q2 ⊢
  rcases q2 with q2 | q2
  · exact .inl (decide_eq_true (Nat.le_trans h (of_decide_eq_true q2)))
  · exact .inr q2
section
variable {m : Ro} (v : V m)
include v
theorem since_eq (hb : m.begun = true) {i : Nat} (hi : i < m.sensors.length) : Vberac.stuckTicks (aR m) i = (stuckTicks (seAt m i) m.now).filter fun (t : Nat) => goesOn (prAt m (seAt m i).prop).moves (((leftOf m (seAt m i).prop).filter fun w => decide (100 ≤ w.1.getD (placeOf m i) 0)).map fun w => w.2) (sight (seAt m i) (100 + (t : Int)) (prAt m (seAt m i).prop).size m.now) := by
  have hp := prop_lt v.inv.ok hi
  have hx := v.se _ (se_mem hi)
  rw [ticks_eq, List.filter_filter]
  unfold Vberac.stuckTicks
  rw [asensor_at hi, hb]
  show (match (aR m).props[(seAt m i).prop]? with
      | none => []
      | some q => (List.range (m.now + 1)).filter fun t => Vberac.mayBe (aS true (seAt m i)) m.now (Vberac.Fault.stuck t) && (Vberac.possibleWays (aR m) (seAt m i).prop).any fun h => (match h[((Vberac.sensorsOf (aR m) (seAt m i).prop).map fun (y : Nat × Vberac.Sensor) => y.1).findIdx fun j => j == i]? with
        | some (Vberac.Fault.stuck _) => Vberac.possible q (((Vberac.sensorsOf (aR m) (seAt m i).prop).map fun (y : Nat × Vberac.Sensor) => y.2).zip (h.set (((Vberac.sensorsOf (aR m) (seAt m i).prop).map fun (y : Nat × Vberac.Sensor) => y.1).findIdx fun j => j == i) (Vberac.Fault.stuck t))) m.now
        | _ => false)) = _
  rw [aprop_at hp, hb, place_eq hi, sens_eq, hb]
  refine List.filter_congr fun t ht => ?_
  have ht2 := List.mem_range.mp ht
  show ((decide ((seAt m i).first ≤ t ∧ t ≤ m.now) && Vberac.alikeFrom (aS true (seAt m i)) t) && _) = _
  by_cases h1 : (seAt m i).first ≤ t
  · rw [decide_eq_true (show (seAt m i).first ≤ t ∧ t ≤ m.now from ⟨h1, by omega⟩), decide_eq_true h1, alike_eq hx h1, Bool.true_and]
    cases h3 : canStick (seAt m i) t with
    | false => rw [Bool.false_and, Bool.and_false]
    | true =>
      rw [Bool.true_and, Bool.and_true]
      unfold goesOn
      rw [left_eq v hb hp, List.filter_map, List.map_map, List.any_map, List.any_filter]
      refine any_congr2 fun h hh => ?_
      obtain ⟨⟨q1, q2⟩, q3, q4⟩ := pw_mem v hb hp hh
      have hpl := place_at hi
      obtain ⟨f, hf, hfm⟩ := rowsF_get q4 hpl
      show (match h[placeOf m i]? with
        | some (Vberac.Fault.stuck _) => Vberac.possible (aP true (prAt m (seAt m i).prop)) (((sensorsOf m (seAt m i).prop).map (aS true)).zip (h.set (placeOf m i) (Vberac.Fault.stuck t))) m.now
        | _ => false) = (decide (100 ≤ (E m (seAt m i).prop h).1.getD (placeOf m i) 0) && hasCourse (prAt m (seAt m i).prop).moves (overlap (E m (seAt m i).prop h).2 (sight (seAt m i) (Vberac.faultRow (Vberac.Fault.stuck t)) (prAt m (seAt m i).prop).size m.now)))
      rw [row_get hf, hf]
      have hft := q2 f (List.mem_of_getElem? hf)
      cases f with
      | fine =>
        show false = _
        rw [decide_eq_false (show ¬ (100 : Int) ≤ Vberac.faultRow Vberac.Fault.fine by show ¬ (100 : Int) ≤ 0; omega), Bool.false_and]
      | late d =>
        obtain ⟨d1, d2⟩ := hft
        show false = _
        rw [decide_eq_false (show ¬ (100 : Int) ≤ Vberac.faultRow (Vberac.Fault.late d) by show ¬ (100 : Int) ≤ (d : Int); omega), Bool.false_and]
      | stuck u =>
        have hu := stuck_first hx hfm h1 (by omega) h3
        show Vberac.possible (aP true (prAt m (seAt m i).prop)) (((sensorsOf m (seAt m i).prop).map (aS true)).zip (h.set (placeOf m i) (Vberac.Fault.stuck t))) m.now = _
        rw [decide_eq_true (show (100 : Int) ≤ Vberac.faultRow (Vberac.Fault.stuck u) by show (100 : Int) ≤ 100 + (u : Int); omega), Bool.true_and, possible_eq (prv v hp) (prl v hp), sight_rows hx (h := Vberac.Fault.stuck t) trivial]
        show _ = hasCourse _ (overlap (rowsA (prAt m (seAt m i).prop).size m.now (Vberac.allows (((sensorsOf m (seAt m i).prop).map (aS true)).zip h) m.now)) _)
        rw [overlap_rows]
        refine congrArg (hasCourse _) (rows_congr fun tt w _ _ => ?_)
        rw [allows_all, allows_all]
        exact (all_set (fun z : Se × Fault => allow1 z.1 z.2 m.now tt w) hpl hf (fun q => allow_stuck hu q)).symm
  · rw [decide_eq_false (show ¬ ((seAt m i).first ≤ t ∧ t ≤ m.now) from fun z => h1 z.1), decide_eq_false h1, Bool.false_and, Bool.false_and, Bool.false_and, Bool.and_false]
theorem say_since (i : Int) : Vberac.step (aR m) (.since i) = (aR m, saySince m i) := by
  show Vberac.asked (aR m) (Vberac.isSensor (aR m) i) _ = _
  unfold saySince
  simp only []
  rw [asked_eq (l' := Mi.toInts ((stuckTicks (seAt m i.toNat) m.now).filter fun (t : Nat) => goesOn (prAt m (seAt m i.toNat).prop).moves (((leftOf m (seAt m i.toNat).prop).filter fun w => decide (100 ≤ w.1.getD (placeOf m i.toNat) 0)).map fun w => w.2) (sight (seAt m i.toNat) (100 + (t : Int)) (prAt m (seAt m i.toNat).prop).size m.now))) (isSensor_eq m i) fun h1 hb => ?_]
  obtain ⟨n, rfl, hn⟩ := isSensor_nat h1
  rw [Int.toNat_natCast, since_eq v hb hn, ints_eq]
end
end Lw
/-! part Lh -/
namespace Lw
open Mi
/-! ### what may be read ahead -/
def cs (x : Nat × Nat) : Span := ((x.1 : Int), (x.2 : Int))
theorem share_meets (a b : List (Nat × Nat)) : share (a.map cs) (b.map cs) = Vberac.meets a b := by
  unfold share Vberac.meets
  rw [List.any_map]
  refine congrArg (fun f => a.any f) (funext fun x => ?_)
  show ((b.map cs).any fun y => decide ((cs x).1 ≤ y.2) && decide (y.1 ≤ (cs x).2)) = _
  rw [List.any_map]
  refine congrArg (fun f => b.any f) (funext fun y => ?_)
  show (decide ((x.1 : Int) ≤ (y.2 : Int)) && decide ((y.1 : Int) ≤ (x.2 : Int))) = decide (x.1 ≤ y.2 ∧ y.1 ≤ x.2)
  rw [Bool.decide_and]
  exact congr (congrArg _ (decide_eq_decide.mpr (by omega))) (decide_eq_decide.mpr (by omega))
theorem around_cs (x : Se) (p : Nat) : around x p = cs (p - x.error, p + x.error) := by
  unfold around cs
  refine Prod.ext ?_ ?_
  · show (if (p : Int) - (x.error : Int) > 0 then (p : Int) - (x.error : Int) else 0) = ((p - x.error : Nat) : Int)
    split <;> omega
  · show (p : Int) + (x.error : Int) = ((p + x.error : Nat) : Int)
    omega
theorem readAt_pre {x : Se} (hx : SeV x) (t : Nat) : Vberac.readAt (aS true x) t = aRead (x.readings.getD t (-1)) := by
  rw [readAt_eq]
  by_cases h : t < x.first
  · rw [if_pos h, hx.pre t h]
    rfl
  · rw [if_neg h]
theorem first_read : ∀ {l : List Int}, (∀ n ∈ l, -1 ≤ n) → (match l.filter fun n => !decide (n = -1) with
    | [] => [((0 : Int), (1000 : Int))]
    | n :: _ => [(n, n)]) = (match l.findSome? aRead with
    | some r => [(r, r)]
    | none => [(0, 1000)]).map cs
  | [], _ => rfl
  | n :: l, h => by
    have ih := first_read (l := l) fun a ha => h a (List.mem_cons_of_mem _ ha)
    rw [List.filter_cons]
    by_cases e : n = -1
    · have e2 : aRead n = none := if_pos e
      rw [if_neg (by rw [decide_eq_true e]; exact Bool.noConfusion), ih, List.findSome?_cons, e2]
    · have e2 : aRead n = some n.toNat := if_neg e
      have h1 := h n List.mem_cons_self
      rw [if_pos (by rw [decide_eq_false e]; rfl), List.findSome?_cons, e2]
      show [(n, n)] = [(((n.toNat : Nat) : Int), ((n.toNat : Nat) : Int))]
      have e3 : ((n.toNat : Nat) : Int) = n := by omega
      rw [e3]
theorem drop_map {l : List Int} {now u : Nat} (hl : l.length = now + 1) : l.drop u = (List.range (now + 1 - u)).map fun k => l.getD (u + k) (-1) := by
  refine List.ext_getElem? fun k => ?_
  rw [List.getElem?_drop, List.getElem?_map]
  by_cases h : u + k < now + 1
  · rw [List.getElem?_range (by omega), List.getElem?_eq_getElem (by omega)]
    show some _ = some (l.getD (u + k) (-1))
    rw [List.getD_eq_getElem?_getD, List.getElem?_eq_getElem (by omega)]
    rfl
  · rw [List.getElem?_eq_none (by omega), List.getElem?_eq_none (by rw [List.length_range]; omega)]
    rfl
theorem stuck_cs {x : Se} (hx : SeV x) {now : Nat} (hl : x.readings.length = now + 1) (u : Nat) : stuckReads x u = (match (List.range (now + 1 - u)).findSome? fun k => Vberac.readAt (aS true x) (u + k) with
    | some r => [(r, r)]
    | none => [(0, 1000)]).map cs := by
  unfold stuckReads readingsFrom
  refine Eq.trans (first_read (l := x.readings.drop u) fun n hn => hx.rd n (List.mem_of_mem_drop hn)) ?_
  have e : (fun k => Vberac.readAt (aS true x) (u + k)) = fun k => aRead (x.readings.getD (u + k) (-1)) := funext fun k => readAt_pre hx _
  have e2 : (x.readings.drop u).findSome? aRead = (List.range (now + 1 - u)).findSome? fun k => aRead (x.readings.getD (u + k) (-1)) := by
    rw [drop_map hl, List.findSome?_map]
    rfl
  rw [e, e2]
theorem told_at {been : List (List Nat)} {told : List Nat} {now j : Nat} (hb : been.length = now + 1) (hj : j < told.length) : (been ++ told.map fun v => [v]).getD (now + 1 + j) [] = [told.getD j 0] := by
  rw [List.getD_eq_getElem?_getD, List.getElem?_append_right (by omega), hb, Nat.add_sub_cancel_left, List.getElem?_map, List.getD_eq_getElem?_getD, List.getElem?_eq_getElem hj]
  rfl
theorem been_at {been : List (List Nat)} {told : List Nat} {now j : Nat} (hb : been.length = now + 1) (hj : j ≤ now) : (been ++ told.map fun v => [v]).getD j [] = been.getD j [] := by
  rw [List.getD_eq_getElem?_getD, List.getElem?_append_left (by omega), List.getD_eq_getElem?_getD]
theorem expect_eq {x : Se} (hx : SeV x) {now : Nat} (hl : x.readings.length = now + 1) (hf1 : x.first ≤ now + 1) {f : Fault} (hf : Ft f) {been : List (List Nat)} (hb : been.length = now + 1) {told : List Nat} {turn : Nat} (ht : turn < told.length) :
    mayRead x (Vberac.faultRow f) been told turn now = (Vberac.expects (aS true x) now f (been ++ told.map fun v => [v]) (now + 1 + turn)).map cs := by
  have har : ∀ l : List Nat, l.map (around x) = (l.map fun v => (v - x.error, v + x.error)).map cs := fun l => by
    rw [List.map_map]
    exact List.map_congr_left fun p _ => around_cs x p
  unfold mayRead
  cases f with
  | fine =>
    show (if (100 : Int) ≤ 0 then _ else if (now : Int) < (now : Int) + 1 + (turn : Int) - 0 then [around x (told.getD ((turn : Int) - 0).toNat 0)] else _) = (((been ++ told.map fun v => [v]).getD (now + 1 + turn) []).map fun v => (v - x.error, v + x.error)).map cs
    have e : ((turn : Int) - 0).toNat = turn := by omega
    rw [if_neg (by omega), if_pos (by omega), e, told_at hb ht, ← har]
    rfl
  | stuck u =>
    show (if (100 : Int) ≤ 100 + (u : Int) then stuckReads x (100 + (u : Int) - 100).toNat else _) = _
    have e : (100 + (u : Int) - 100).toNat = u := by omega
    rw [if_pos (by omega), e, stuck_cs hx hl]
    rfl
  | late d =>
    obtain ⟨d1, d2⟩ := hf
    show (if (100 : Int) ≤ (d : Int) then _ else if (now : Int) < (now : Int) + 1 + (turn : Int) - (d : Int) then [around x (told.getD ((turn : Int) - (d : Int)).toNat 0)] else if (now : Int) + 1 + (turn : Int) - (d : Int) < (x.first : Int) then [((0 : Int), (1000 : Int))] else (been.getD ((now : Int) + 1 + (turn : Int) - (d : Int)).toNat []).map (around x)) = (if now + 1 + turn < d + x.first then [(0, 1000)] else ((been ++ told.map fun v => [v]).getD (now + 1 + turn - d) []).map fun v => (v - x.error, v + x.error)).map cs
    rw [if_neg (by omega)]
    by_cases h1 : d ≤ turn
    · have e : ((turn : Int) - (d : Int)).toNat = turn - d := by omega
      have e2 : now + 1 + turn - d = now + 1 + (turn - d) := by omega
      rw [if_pos (by omega), if_neg (by omega), e, e2, told_at hb (by omega), ← har]
      rfl
    · rw [if_neg (by omega)]
      by_cases h2 : now + 1 + turn < d + x.first
      · rw [if_pos (by omega), if_pos h2]
        rfl
      · have e : ((now : Int) + 1 + (turn : Int) - (d : Int)).toNat = now + 1 + turn - d := by omega
        rw [if_neg (by omega), if_neg h2, e, been_at hb (by omega), ← har]
theorem zip_flat {α β γ : Type} (f : α → List β) (g : α → List γ) (p : β × γ → Bool) : ∀ {l : List α}, (∀ a ∈ l, (f a).length = (g a).length) → ((l.flatMap f).zip (l.flatMap g)).all p = l.all fun a => ((f a).zip (g a)).all p
  | [], _ => rfl
  | a :: l, h => by
    rw [List.flatMap_cons, List.flatMap_cons, List.zip_append (h a List.mem_cons_self), List.all_append, List.all_cons, zip_flat f g p fun b hb => h b (List.mem_cons_of_mem _ hb)]
theorem zip_three {α β γ δ : Type} (f : α × β → γ) (g : α × β → δ) (p : γ × δ → Bool) : ∀ {l : List α} {a b : List β}, a.length = l.length → b.length = l.length → ((((l.zip a).map f).zip ((l.zip b).map g)).all p) = (l.zip (a.zip b)).all fun x => p (f (x.1, x.2.1), g (x.1, x.2.2))
  | [], _, _, _, _ => rfl
  | _ :: _, [], _, h, _ => by cases h
  | _ :: _, _ :: _, [], _, h => by cases h
  | x :: l, y :: a, z :: b, h1, h2 => by
    have ih := zip_three f g p (l := l) (a := a) (b := b) (by simpa using h1) (by simpa using h2)
    rw [List.zip_cons_cons, List.zip_cons_cons, List.zip_cons_cons, List.zip_cons_cons, List.map_cons, List.map_cons, List.zip_cons_cons, List.all_cons, List.all_cons, ih]
theorem all_zip3 {xs : List Se} (p : Vberac.Sensor × Fault × Fault → Bool) (q : Se × Int × Int → Bool) : ∀ {xs : List Se} {h g : List Fault}, (∀ x ∈ xs, ∀ a ∈ h, ∀ b ∈ g, q (x, Vberac.faultRow a, Vberac.faultRow b) = p (aS true x, a, b)) →
    (xs.zip ((h.map Vberac.faultRow).zip (g.map Vberac.faultRow))).all q = ((xs.map (aS true)).zip (h.zip g)).all p
  | [], _, _, _ => rfl
  | _ :: _, [], _, _ => rfl
  | _ :: _, _ :: _, [], _ => rfl
  | x :: xs, a :: h, b :: g, hh => by
    have ih := all_zip3 (xs := xs) p q (h := h) (g := g) fun y hy c hc d hd => hh y (List.mem_cons_of_mem _ hy) c (List.mem_cons_of_mem _ hc) d (List.mem_cons_of_mem _ hd)
    rw [List.map_cons, List.map_cons, List.map_cons, List.zip_cons_cons, List.zip_cons_cons, List.zip_cons_cons, List.zip_cons_cons, List.all_cons, List.all_cons, ih, hh x List.mem_cons_self a List.mem_cons_self b List.mem_cons_self]
theorem alike_by {xs : List Se} {now : Nat} (hx : ∀ x ∈ xs, SeV x ∧ x.readings.length = now + 1 ∧ x.first ≤ now + 1) {h g : List Fault} (h1 : h.length = xs.length ∧ ∀ f ∈ h, Ft f) (h2 : g.length = xs.length ∧ ∀ f ∈ g, Ft f) {c e : List (List Nat)} (hc : c.length = now + 1) (he : e.length = now + 1) (told : List Nat) :
    alike (readsAhead xs (h.map Vberac.faultRow, c) told now) (readsAhead xs (g.map Vberac.faultRow, e) told now) = Vberac.alikeBy (xs.map (aS true)) now told (h, c) (g, e) := by
  unfold alike readsAhead Vberac.alikeBy
  rw [zip_flat _ _ _ fun t _ => by
    rw [List.length_map, List.length_map, List.length_zip, List.length_zip, List.length_map, List.length_map, h1.1, h2.1]]
  refine all_congr2 fun t ht => ?_
  have ht2 := List.mem_range.mp ht
  show ((((xs.zip (h.map Vberac.faultRow)).map fun x => mayRead x.1 x.2 c told t now).zip ((xs.zip (g.map Vberac.faultRow)).map fun x => mayRead x.1 x.2 e told t now)).all fun x => share x.1 x.2) = ((xs.map (aS true)).zip (h.zip g)).all fun x => Vberac.meets (Vberac.expects x.1 now x.2.1 (c ++ told.map fun v => [v]) (now + 1 + t)) (Vberac.expects x.1 now x.2.2 (e ++ told.map fun v => [v]) (now + 1 + t))
  rw [zip_three _ _ _ (by rw [List.length_map, h1.1]) (by rw [List.length_map, h2.1])]
  refine all_zip3 (xs := xs) _ _ fun x hxx a ha b hb => ?_
  obtain ⟨q1, q2, q3⟩ := hx x hxx
  show share (mayRead x (Vberac.faultRow a) c told t now) (mayRead x (Vberac.faultRow b) e told t now) = _
  rw [expect_eq q1 q2 q3 (h1.2 a ha) hc ht2, expect_eq q1 q2 q3 (h2.2 b hb) he ht2, share_meets]
/-! ### told moves -/
theorem newest_moves (size : Nat) : ∀ n, newest size n = Vberac.movesOf size n := by
  have snoc : ∀ n, Vberac.movesOf size (n + 1) = (Vberac.movesOf size n).flatMap fun l => (List.range size).map fun p => l ++ [p] := fun n => by
    induction n with
    | zero =>
      show ((List.range size).flatMap fun v => [[v]]) = [[]].flatMap fun l => (List.range size).map fun p => l ++ [p]
      rw [List.flatMap_cons, List.flatMap_nil, List.append_nil]
      exact (List.map_eq_flatMap ..).symm
    | succ n ih =>
      show ((List.range size).flatMap fun v => (Vberac.movesOf size (n + 1)).map fun l => v :: l) = ((List.range size).flatMap fun v => (Vberac.movesOf size n).map fun l => v :: l).flatMap fun l => (List.range size).map fun p => l ++ [p]
      rw [ih, List.flatMap_assoc]
      refine congrArg (fun f => (List.range size).flatMap f) (funext fun v => ?_)
      rw [List.map_flatMap, List.flatMap_map]
      refine congrArg (fun f => (Vberac.movesOf size n).flatMap f) (funext fun l => ?_)
      rw [List.map_map]
      rfl
  intro n
  induction n with
  | zero => rfl
  | succ n ih =>
    rw [snoc, ← ih]
    rfl
theorem candidates_find (size : Nat) (S : List Nat → Bool) : ∀ n, (candidates size n).find? S = (List.range (n + 1)).findSome? fun k => (Vberac.movesOf size k).find? S
  | 0 => by
    show [[]].find? S = [0].findSome? fun k => (Vberac.movesOf size k).find? S
    rw [List.findSome?_cons]
    cases q : (Vberac.movesOf size 0).find? S with
    | none => exact q
    | some b => exact q
  | n + 1 => by
    show (candidates size n ++ newest size (n + 1)).find? S = _
    rw [List.find?_append, candidates_find size S n, List.range_succ (n := n + 1), List.findSome?_append, newest_moves]
    refine congrArg (fun z => Option.or _ z) ?_
    rw [List.findSome?_cons]
    cases (Vberac.movesOf size (n + 1)).find? S <;> rfl
section
variable {m : Ro} (v : V m)
include v
theorem settles_eq (hb : m.begun = true) {i : Nat} (hi : i < m.sensors.length) : ∃ z, Vberac.paths (aR m) i = some z ∧ ∀ told, settlesNow m i told = Vberac.settlesBy m.now z told := by
  have hp := prop_lt v.inv.ok hi
  refine ⟨(placeOf m i, (sensorsOf m (seAt m i).prop).map (aS true), (Vberac.possibleWays (aR m) (seAt m i).prop).map fun h => (h, seats (prAt m (seAt m i).prop).moves (E m (seAt m i).prop h).2)), ?_, fun told => ?_⟩
  · unfold Vberac.paths
    rw [asensor_at hi, hb]
    show Option.map (fun q => (((Vberac.sensorsOf (aR m) (seAt m i).prop).map fun (y : Nat × Vberac.Sensor) => y.1).findIdx (fun j => j == i), (Vberac.sensorsOf (aR m) (seAt m i).prop).map (fun (y : Nat × Vberac.Sensor) => y.2), (Vberac.possibleWays (aR m) (seAt m i).prop).map fun h => (h, Vberac.course q (Vberac.withFaults (aR m) (seAt m i).prop h) m.now))) ((aR m).props[(seAt m i).prop]?) = _
    rw [aprop_at hp, hb, place_eq hi, sens_eq, hb]
    show some _ = _
    refine congrArg (fun l => some (placeOf m i, (sensorsOf m (seAt m i).prop).map (aS true), l)) (List.map_congr_left fun h _ => ?_)
    rw [course_E v hb hp]
  · unfold settlesNow toldSettle viewsLeft Vberac.settlesBy noneAlike
    rw [left_eq v hb hp, List.map_map]
    have hmem := fun h hh => pw_mem v hb hp (h := h) hh
    have hget := fun h hh => pw_get v hb hi (h := h) hh
    generalize Vberac.possibleWays (aR m) (seAt m i).prop = L at hmem hget
    have hx : ∀ x ∈ sensorsOf m (seAt m i).prop, SeV x ∧ x.readings.length = m.now + 1 ∧ x.first ≤ m.now + 1 := fun x hxx => by
      obtain ⟨q1, q2⟩ := sev v x hxx
      exact ⟨q1, (v.inv.ok.se x (List.mem_filter.mp hxx).1).2.2.2, q2⟩
    have hs : ∀ h, (seats (prAt m (seAt m i).prop).moves (E m (seAt m i).prop h).2).length = m.now + 1 := fun h => by
      rw [Mi.seats_len, prl v hp]
    have hP : ∀ h ∈ L, decide ((E m (seAt m i).prop h).1.getD (placeOf m i) 0 = 0) = (h[placeOf m i]? == some Vberac.Fault.fine) := fun h hh => by
      obtain ⟨f, e, hf⟩ := hget h hh
      rw [row_get e, e, row_zero ((hmem h hh).1.2 f hf)]
      cases f <;> rfl
    rw [List.filter_map, List.filter_map, List.filter_map, List.filter_map, List.map_map, List.map_map, List.all_map, List.all_map]
    have e1 : L.filter ((fun w : View => decide (w.1.getD (placeOf m i) 0 = 0)) ∘ ((fun w : Way => (w.1, seats (prAt m (seAt m i).prop).moves w.2)) ∘ E m (seAt m i).prop)) = L.filter ((fun h : List Fault × List (List Nat) => h.1[placeOf m i]? == some Vberac.Fault.fine) ∘ fun h => (h, seats (prAt m (seAt m i).prop).moves (E m (seAt m i).prop h).2)) := List.filter_congr fun h hh => hP h hh
    have e2 : L.filter ((fun w : View => !decide (w.1.getD (placeOf m i) 0 = 0)) ∘ ((fun w : Way => (w.1, seats (prAt m (seAt m i).prop).moves w.2)) ∘ E m (seAt m i).prop)) = L.filter ((fun h : List Fault × List (List Nat) => h.1[placeOf m i]? != some Vberac.Fault.fine) ∘ fun h => (h, seats (prAt m (seAt m i).prop).moves (E m (seAt m i).prop h).2)) := List.filter_congr fun h hh => congrArg (!·) (hP h hh)
    rw [e1, e2]
    refine all_congr2 fun h hh => ?_
    have hh1 := hmem h (List.mem_filter.mp hh).1
    show (List.map _ _).all _ = (List.map _ _).all _
    rw [List.all_map, List.all_map]
    refine all_congr2 fun g hg => ?_
    have hg1 := hmem g (List.mem_filter.mp hg).1
    exact congrArg (!·) (alike_by hx hh1.1 hg1.1 (hs h) (hs g) told)
theorem say_settle (i n : Int) : Vberac.step (aR m) (.settle i n) = (aR m, saySettle m i n) := by
  unfold saySettle
  show (if Vberac.isSensor (aR m) i = false ∨ Vberac.from_ n 0 2 = false then Vberac.no (aR m) 1 else if m.begun = false then Vberac.no (aR m) 3 else _) = _
  rw [isSensor_eq]
  unfold Vberac.from_
  by_cases q : isSensor m i = true ∧ 0 ≤ n ∧ n ≤ 2
  · rw [if_neg (show ¬ (isSensor m i = false ∨ decide (0 ≤ n ∧ n ≤ 2) = false) from fun z => by rw [q.1, decide_eq_true q.2] at z; rcases z with z | z <;> cases z), if_neg (show ¬ ¬ (isSensor m i = true ∧ 0 ≤ n ∧ n ≤ 2) from fun z => z q)]
    rcases (bcases m.begun).symm with hb | hb
    · rw [no3f hb, no3f hb]
      rfl
    · rw [no3 hb, no3 hb]
      obtain ⟨k, rfl, hk⟩ := isSensor_nat q.1
      rw [Int.toNat_natCast]
      obtain ⟨z, hz, hs⟩ := settles_eq v hb hk
      unfold Vberac.settling firstSettling Vberac.sizeFor
      rw [hz, asensor_at hk, hb]
      have e1 : (Option.map (fun q : Vberac.Prop_ => q.size) ((some (aS true (seAt m k))).bind fun x => (aR m).props[x.prop]?)).getD 0 = (prAt m (seAt m k).prop).size := by
        show (Option.map (fun q : Vberac.Prop_ => q.size) ((aR m).props[(seAt m k).prop]?)).getD 0 = _
        rw [aprop_at (prop_lt v.inv.ok hk)]
        rfl
      rw [e1, candidates_find, show settlesNow m k = Vberac.settlesBy m.now z from funext hs]
      show (match (List.range (n.toNat + 1)).findSome? fun k_1 => (Vberac.movesOf (prAt m (seAt m k).prop).size k_1).find? (Vberac.settlesBy m.now z) with
        | none => Vberac.yes (aR m) [0]
        | some l => Vberac.yes (aR m) (1 :: Vberac.ints l)) = _
      cases (List.range (n.toNat + 1)).findSome? fun k_1 => (Vberac.movesOf (prAt m (seAt m k).prop).size k_1).find? (Vberac.settlesBy m.now z) <;> rfl
  · rw [if_pos (show (isSensor m i = false ∨ decide (0 ≤ n ∧ n ≤ 2) = false) from by
      rcases (bcases (isSensor m i)).symm with h | h
      · exact .inl h
      · exact .inr (decide_eq_false fun z => q ⟨h, z⟩)), if_pos q]
    rfl
theorem say_settles (i : Int) (ms : List Int) : Vberac.step (aR m) (.settles i ms) = (aR m, saySettles m i ms) := by
  unfold saySettles
  show (if Vberac.isSensor (aR m) i = false ∨ 6 < ms.length ∨ (ms.all fun w => Vberac.from_ w 0 ((Vberac.sizeFor (aR m) i.toNat : Int) - 1)) = false then Vberac.no (aR m) 1 else if m.begun = false then Vberac.no (aR m) 3 else Vberac.yes (aR m) [Vberac.bit (Vberac.settles (aR m) i.toNat (ms.map Int.toNat))]) = _
  rw [isSensor_eq]
  rcases (bcases (isSensor m i)).symm with h | h
  · rw [if_pos (Or.inl h), if_pos (show ¬ (isSensor m i = true ∧ toldRight m i.toNat ms = true) from fun z => by rw [h] at z; exact Bool.noConfusion z.1)]
    rfl
  obtain ⟨k, rfl, hk⟩ := isSensor_nat h
  rw [Int.toNat_natCast]
  have e1 : Vberac.sizeFor (aR m) k = (prAt m (seAt m k).prop).size := by
    unfold Vberac.sizeFor
    rw [asensor_at hk]
    show (Option.map (fun q : Vberac.Prop_ => q.size) ((aR m).props[(seAt m k).prop]?)).getD 0 = _
    rw [aprop_at (prop_lt v.inv.ok hk)]
    rfl
  have e2 : (ms.all fun w => Vberac.from_ w 0 ((Vberac.sizeFor (aR m) k : Int) - 1)) = ms.all fun n => decide (0 ≤ n) && decide (n < ((prAt m (seAt m k).prop).size : Int)) := by
    refine congrArg (fun f => ms.all f) (funext fun n => ?_)
    unfold Vberac.from_
    rw [e1, Bool.decide_and]
    exact congrArg (_ && ·) (decide_eq_decide.mpr (by omega))
  rw [e2]
  by_cases q : toldRight m k ms = true
  · have q2 := q
    unfold toldRight at q2
    rw [Bool.and_eq_true] at q2
    have q3 := of_decide_eq_true q2.1
    rw [if_neg (show ¬ (isSensor m (k : Int) = false ∨ 6 < ms.length ∨ (ms.all fun n => decide (0 ≤ n) && decide (n < ((prAt m (seAt m k).prop).size : Int))) = false) from fun z => by
      rw [h, q2.2] at z
      rcases z with z | z | z
      · cases z
      · omega
      · cases z), if_neg (show ¬ ¬ (isSensor m (k : Int) = true ∧ toldRight m k ms = true) from fun z => z ⟨h, q⟩)]
    rcases (bcases m.begun).symm with hb | hb
    · rw [no3f hb, no3f hb]
      rfl
    · rw [no3 hb, no3 hb]
      obtain ⟨z, hz, hs⟩ := settles_eq v hb hk
      unfold Vberac.settles
      rw [hz, hs]
      rfl
  · rw [if_pos (show (isSensor m (k : Int) = false ∨ 6 < ms.length ∨ (ms.all fun n => decide (0 ≤ n) && decide (n < ((prAt m (seAt m k).prop).size : Int))) = false) from by
      by_cases h6 : 6 < ms.length
      · exact .inr (.inl h6)
      · refine .inr (.inr ?_)
        rcases (bcases (ms.all fun n => decide (0 ≤ n) && decide (n < ((prAt m (seAt m k).prop).size : Int)))).symm with z | z
        · exact z
        · refine (q ?_).elim
          unfold toldRight
          rw [z, decide_eq_true (show ms.length ≤ 6 by omega)]
          rfl), if_pos (show ¬ (isSensor m (k : Int) = true ∧ toldRight m k ms = true) from fun z => q z.2)]
    rfl
end
end Lw
/-! part Li -/
namespace Lw
open Mi
/-! ### the calls that change what is kept -/
def Both (m : Ro) (c : Vberac.Call) (r : Ro × List Int) : Prop := Vberac.step (aR m) c = (aR r.1, r.2) ∧ V r.1
theorem from_t {n lo hi : Int} (h : lo ≤ n ∧ n ≤ hi) : Vberac.from_ n lo hi = true := decide_eq_true h
theorem from_f {n lo hi : Int} (h : ¬ (lo ≤ n ∧ n ≤ hi)) : Vberac.from_ n lo hi = false := decide_eq_false h
theorem yes3 {α : Type} {b : Bool} {x y : α} (h : b = true) : (if b = true then x else y) = x := if_pos h
theorem yes3f {α : Type} {b : Bool} {x y : α} (h : b = false) : (if b = true then x else y) = y := if_neg (by rw [h]; exact Bool.noConfusion)
theorem zip_self {α β γ : Type} (f : α → β) (g : α × β → γ) : ∀ l : List α, (l.zip (l.map f)).map g = l.map fun a => g (a, f a)
  | [] => rfl
  | a :: l => by
    rw [List.map_cons, List.zip_cons_cons, List.map_cons, List.map_cons, zip_self f g l]
theorem zip_two {α α' β β' γ γ' : Type} (a : α → α') (b : β → β') (g : α × β → γ) (c : γ → γ') (g' : α' × β' → γ') : ∀ {l : List α} {k : List β}, (∀ x ∈ l, ∀ y ∈ k, c (g (x, y)) = g' (a x, b y)) → ((l.zip k).map g).map c = ((l.map a).zip (k.map b)).map g'
  | [], _, _ => rfl
  | _ :: _, [], _ => rfl
  | x :: l, y :: k, h => by
    rw [List.zip_cons_cons, List.map_cons, List.map_cons, List.map_cons, List.map_cons, List.zip_cons_cons, List.map_cons, h x List.mem_cons_self y List.mem_cons_self, zip_two a b g c g' fun u hu w hw => h u (List.mem_cons_of_mem _ hu) w (List.mem_cons_of_mem _ hw)]
theorem v_fresh {n : Nat} (h : n ≤ 2) : V ⟨n, false, 0, [], []⟩ := ⟨⟨ok_fresh h, fun _ => rfl⟩, fun q h => (by cases h), fun q h => (by cases h), fun _ q h => (by cases h), fun _ q h => (by cases h)⟩
section
variable {m : Ro} (v : V m)
include v
theorem do_begin (n : Int) : Both m (.begin_ n) (doBegin m n) := by
  unfold Both doBegin
  show (if Vberac.from_ n 0 2 = false then Vberac.no (aR m) 1 else _) = _ ∧ _
  by_cases q : 0 ≤ n ∧ n ≤ 2
  · rw [no3 (from_t q), if_pos q]
    exact ⟨rfl, v_fresh (by omega)⟩
  · rw [no3f (from_f q), if_neg q]
    exact ⟨rfl, v⟩
theorem do_allow (n : Int) : Both m (.allow n) (doAllow m n) := by
  unfold Both doAllow
  show (if Vberac.from_ n 0 2 = false then Vberac.no (aR m) 1 else _) = _ ∧ _
  by_cases q : 0 ≤ n ∧ n ≤ 2
  · rw [no3 (from_t q), if_pos q]
    exact ⟨rfl, ⟨⟨ok_most v.inv.ok (by omega), v.inv.z⟩, v.pr, v.se, v.p0, v.s0⟩⟩
  · rw [no3f (from_f q), if_neg q]
    exact ⟨rfl, v⟩
theorem do_prop (n : Int) : Both m (.prop n) (doProp m n) := by
  unfold Both doProp
  show (if Vberac.from_ n 2 8 = false then Vberac.no (aR m) 1 else if m.begun = true then Vberac.no (aR m) 3 else if Vberac.PROPS ≤ (m.props.map (aP m.begun)).length then Vberac.no (aR m) 5 else Vberac.yes { aR m with props := m.props.map (aP m.begun) ++ [{ size := n.toNat, moves := [] }] } [((m.props.map (aP m.begun)).length : Int)]) = _ ∧ _
  rw [List.length_map]
  by_cases q : 2 ≤ n ∧ n ≤ 8
  · rw [no3 (from_t q), if_neg (show ¬ ¬ (2 ≤ n ∧ n ≤ 8) from fun z => z q)]
    rcases bcases m.begun with hb | hb
    · rw [yes3 hb, yes3 hb]
      exact ⟨rfl, v⟩
    · rw [yes3f hb, yes3f hb]
      have hnp := v.inv.ok.np
      by_cases h4 : m.props.length = 4
      · rw [if_pos h4, if_pos (show Vberac.PROPS ≤ m.props.length by show 4 ≤ _; omega)]
        exact ⟨rfl, v⟩
      · rw [if_neg h4, if_neg (show ¬ Vberac.PROPS ≤ m.props.length by show ¬ 4 ≤ _; omega)]
        refine ⟨?_, ⟨⟨ok_prop v.inv.ok (by omega) (v.inv.z hb) (by omega) (by omega), v.inv.z⟩, fun p hp => ?_, v.se, fun _ p hp => ?_, v.s0⟩⟩
        · show (({ aR m with props := m.props.map (aP m.begun) ++ [{ size := n.toNat, moves := [] }] } : Vberac.State), _) = (({ aR m with props := (m.props ++ ([⟨n.toNat, [-2]⟩] : List Pr)).map (aP m.begun) } : Vberac.State), _)
          rw [List.map_append, hb]
          rfl
        · rcases List.mem_append.mp hp with h | h
          · exact v.pr p h
          · rw [List.mem_singleton.mp h]
            refine ⟨fun k hk => ?_, rfl⟩
            rw [List.mem_singleton.mp hk]
            show (-2 : Int) ≤ -2 ∧ (-2 : Int) < (n.toNat : Int)
            omega
        · rcases List.mem_append.mp hp with h | h
          · exact v.p0 hb p h
          · rw [List.mem_singleton.mp h]
  · rw [no3f (from_f q), if_pos q]
    exact ⟨rfl, v⟩
theorem do_sensor (p e : Int) : Both m (.sensor p e) (doSensor m p e) := by
  unfold Both doSensor
  show (if Vberac.isProp (aR m) p = false ∨ Vberac.from_ e 0 3 = false then Vberac.no (aR m) 1 else if m.begun = true then Vberac.no (aR m) 3 else if Vberac.SENSORS ≤ (m.sensors.map (aS m.begun)).length ∨ Vberac.EACH ≤ (Vberac.sensorsOf (aR m) p.toNat).length then Vberac.no (aR m) 5 else Vberac.yes { aR m with sensors := m.sensors.map (aS m.begun) ++ [{ prop := p.toNat, err := e.toNat, since := 0, reads := [] }] } [((m.sensors.map (aS m.begun)).length : Int)]) = _ ∧ _
  rw [List.length_map, sens_len, isProp_eq]
  by_cases q : isProp m p = true ∧ 0 ≤ e ∧ e ≤ 3
  · rw [if_neg (show ¬ (isProp m p = false ∨ Vberac.from_ e 0 3 = false) from fun z => by rw [q.1, from_t q.2] at z; rcases z with z | z <;> cases z), if_neg (show ¬ ¬ (isProp m p = true ∧ 0 ≤ e ∧ e ≤ 3) from fun z => z q)]
    rcases bcases m.begun with hb | hb
    · rw [yes3 hb, yes3 hb]
      exact ⟨rfl, v⟩
    · rw [yes3f hb, yes3f hb]
      have hns := v.inv.ok.ns
      have hone := v.inv.ok.one p.toNat
      by_cases h4 : m.sensors.length = 8 ∨ (sensorsOf m p.toNat).length = 4
      · rw [if_pos h4, if_pos (show Vberac.SENSORS ≤ m.sensors.length ∨ Vberac.EACH ≤ (sensorsOf m p.toNat).length by show 8 ≤ _ ∨ 4 ≤ _; omega)]
        exact ⟨rfl, v⟩
      · rw [if_neg h4, if_neg (show ¬ (Vberac.SENSORS ≤ m.sensors.length ∨ Vberac.EACH ≤ (sensorsOf m p.toNat).length) by show ¬ (8 ≤ _ ∨ 4 ≤ _); omega)]
        obtain ⟨k, ek, hk⟩ := isProp_nat q.1
        refine ⟨?_, ⟨⟨ok_sensor v.inv.ok (by omega) (v.inv.z hb) (by omega) (by omega) (by omega), v.inv.z⟩, v.pr, fun x hx => ?_, v.p0, fun _ x hx => ?_⟩⟩
        · show (({ aR m with sensors := m.sensors.map (aS m.begun) ++ [{ prop := p.toNat, err := e.toNat, since := 0, reads := [] }] } : Vberac.State), _) = (({ aR m with sensors := (m.sensors ++ ([⟨p.toNat, e.toNat, 0, [-1]⟩] : List Se)).map (aS m.begun) } : Vberac.State), _)
          rw [List.map_append, hb]
          rfl
        · rcases List.mem_append.mp hx with h | h
          · exact v.se x h
          · rw [List.mem_singleton.mp h]
            refine ⟨fun k hk => ?_, fun t ht => absurd ht (Nat.not_lt_zero t)⟩
            rw [List.mem_singleton.mp hk]
            exact Int.le_refl _
        · rcases List.mem_append.mp hx with h | h
          · exact v.s0 hb x h
          · rw [List.mem_singleton.mp h]
            exact ⟨rfl, rfl⟩
  · rw [if_pos (show (isProp m p = false ∨ Vberac.from_ e 0 3 = false) from by
      rcases (bcases (isProp m p)).symm with h | h
      · exact .inl h
      · exact .inr (from_f fun z => q ⟨h, z⟩)), if_pos q]
    exact ⟨rfl, v⟩
theorem do_go : Both m .go (doGo m) := by
  unfold Both doGo
  show (if m.begun = true then Vberac.no (aR m) 3 else if (m.props.map (aP m.begun)).isEmpty = true then Vberac.no (aR m) 4 else Vberac.yes { Vberac.put (aR m) ((m.props.map (aP m.begun)).map fun _ => Vberac.Move.loose) ((m.sensors.map (aS m.begun)).map fun _ => none) with begun := true } []) = _ ∧ _
  rcases bcases m.begun with hb | hb
  · rw [yes3 hb, yes3 hb]
    exact ⟨rfl, v⟩
  · rw [yes3f hb, yes3f hb]
    by_cases h0 : m.props.length = 0
    · have e : (m.props.map (aP m.begun)).isEmpty = true := by
        rw [List.length_eq_zero_iff.mp h0]
        rfl
      rw [yes3 e, if_pos h0]
      exact ⟨rfl, v⟩
    · have e : (m.props.map (aP m.begun)).isEmpty = false := by
        cases hp : m.props with
        | nil => exact (h0 (by rw [hp]; rfl)).elim
        | cons a r => rfl
      rw [yes3f e, if_neg h0]
      refine ⟨?_, ⟨⟨ok_begun v.inv.ok true, fun z => by cases z⟩, v.pr, v.se, fun z => (by cases z), fun z => (by cases z)⟩⟩
      have e1 : ((m.props.map (aP m.begun)).zip ((m.props.map (aP m.begun)).map fun _ => Vberac.Move.loose)).map (fun x => ({ x.1 with moves := x.1.moves ++ [x.2] } : Vberac.Prop_)) = m.props.map (aP true) := by
        rw [zip_self, List.map_map]
        refine List.map_congr_left fun q hq => ?_
        show (⟨q.size, (if m.begun = true then q.moves.map aMove else []) ++ [Vberac.Move.loose]⟩ : Vberac.Prop_) = ⟨q.size, q.moves.map aMove⟩
        rw [hb, v.p0 hb q hq]
        rfl
      have e2 : ((m.sensors.map (aS m.begun)).zip ((m.sensors.map (aS m.begun)).map fun _ => (none : Option Nat))).map (fun x => ({ x.1 with reads := x.1.reads ++ [x.2] } : Vberac.Sensor)) = m.sensors.map (aS true) := by
        rw [zip_self, List.map_map]
        refine List.map_congr_left fun x hx => ?_
        obtain ⟨s1, s2⟩ := v.s0 hb x hx
        show (⟨x.prop, x.error, x.first, (if m.begun = true then (x.readings.drop x.first).map aRead else []) ++ [none]⟩ : Vberac.Sensor) = ⟨x.prop, x.error, x.first, (x.readings.drop x.first).map aRead⟩
        rw [hb, s1, s2]
        rfl
      show (({ props := ((m.props.map (aP m.begun)).zip ((m.props.map (aP m.begun)).map fun _ => Vberac.Move.loose)).map (fun x => ({ x.1 with moves := x.1.moves ++ [x.2] } : Vberac.Prop_)), sensors := ((m.sensors.map (aS m.begun)).zip ((m.sensors.map (aS m.begun)).map fun _ => (none : Option Nat))).map (fun x => ({ x.1 with reads := x.1.reads ++ [x.2] } : Vberac.Sensor)), now := m.now, begun := true, most := m.most } : Vberac.State), ([0] : List Int)) = _
      rw [e1, e2]
      rfl
end
theorem moves_in {b : Bool} : ∀ (ps : List Pr) (l : List Int), Vberac.movesIn (ps.map (aP b)) l = if (decide (l.length = ps.length) && (ps.zip l).all fun x => decide (-2 ≤ x.2) && decide (x.2 < (x.1.size : Int))) = true then some (l.map aMove) else none
  | [], [] => rfl
  | [], n :: r => rfl
  | p :: ps, [] => rfl
  | p :: ps, n :: r => by
    have ih := moves_in (b := b) ps r
    show (match Vberac.moveIn p.size n, Vberac.movesIn (ps.map (aP b)) r with
      | some m, some t => some (m :: t)
      | _, _ => none) = _
    rw [ih, List.zip_cons_cons, List.all_cons, List.length_cons, List.length_cons]
    have el : decide (r.length + 1 = ps.length + 1) = decide (r.length = ps.length) := decide_eq_decide.mpr (by omega)
    rw [el]
    by_cases q : -2 ≤ n ∧ n < (p.size : Int)
    · have e : Vberac.moveIn p.size n = some (aMove n) := by
        unfold Vberac.moveIn aMove
        by_cases m1 : n = -1
        · rw [if_pos m1, if_pos m1]
        · rw [if_neg m1, if_neg m1]
          by_cases m2 : n = -2
          · rw [if_pos m2, if_pos m2]
          · rw [if_neg m2, if_neg m2, if_pos (by omega)]
      rw [e]
      show _ = if (decide (r.length = ps.length) && ((decide (-2 ≤ n) && decide (n < (p.size : Int))) && _)) = true then _ else _
      rw [decide_eq_true q.1, decide_eq_true q.2, Bool.true_and, Bool.true_and]
      cases (decide (r.length = ps.length) && (ps.zip r).all fun x => decide (-2 ≤ x.2) && decide (x.2 < (x.1.size : Int))) <;> rfl
    · have e : Vberac.moveIn p.size n = none := by
        unfold Vberac.moveIn
        have hz := Int.natCast_nonneg p.size
        rw [if_neg (by omega), if_neg (by omega), if_neg (by omega)]
      rw [e]
      show none = if (decide (r.length = ps.length) && ((decide (-2 ≤ n) && decide (n < (p.size : Int))) && _)) = true then _ else _
      have e2 : (decide (-2 ≤ n) && decide (n < (p.size : Int))) = false := by
        rw [← Bool.decide_and]
        exact decide_eq_false q
      rw [e2, Bool.false_and, Bool.and_false]
      rfl
theorem reads_in : ∀ l : List Int, Vberac.readsIn l = if (l.all fun n => decide (-1 ≤ n) && decide (n ≤ 1000)) = true then some (l.map aRead) else none
  | [] => rfl
  | n :: r => by
    show (match Vberac.readIn n, Vberac.readsIn r with
      | some x, some l => some (x :: l)
      | _, _ => none) = _
    rw [reads_in r, List.all_cons]
    by_cases q : -1 ≤ n ∧ n ≤ 1000
    · have e : Vberac.readIn n = some (aRead n) := by
        unfold Vberac.readIn aRead
        by_cases m1 : n = -1
        · rw [if_pos m1, if_pos m1]
        · rw [if_neg m1, if_neg m1, if_pos (by omega)]
      rw [e, decide_eq_true q.1, decide_eq_true q.2, Bool.true_and, Bool.true_and]
      cases (r.all fun n => decide (-1 ≤ n) && decide (n ≤ 1000)) <;> rfl
    · have e : Vberac.readIn n = none := by
        unfold Vberac.readIn
        rw [if_neg (by omega), if_neg (by omega)]
      have e2 : (decide (-1 ≤ n) && decide (n ≤ 1000)) = false := by
        rw [← Bool.decide_and]
        exact decide_eq_false q
      rw [e, e2, Bool.false_and]
      rfl
section
variable {m : Ro} (v : V m)
include v
theorem v_stepped (hb : m.begun = true) (hn : m.now < 24) {ms rs : List Int} (h1 : movesRight m ms = true) (h2 : readingsRight m rs = true) : V (stepped m ms rs) := by
  unfold movesRight at h1
  unfold readingsRight at h2
  rw [Bool.and_eq_true] at h1 h2
  have l1 := of_decide_eq_true h1.1
  have l2 := of_decide_eq_true h2.1
  have a1 := List.all_eq_true.mp h1.2
  have a2 := List.all_eq_true.mp h2.2
  refine ⟨⟨ok_stepped v.inv.ok hn l1 l2, fun z => ?_⟩, fun q hq => ?_, fun x hx => ?_, fun z => ?_, fun z => ?_⟩
  · have : m.begun = false := z
    rw [hb] at this
    cases this
  · obtain ⟨⟨q0, n⟩, hz, rfl⟩ := List.mem_map.mp hq
    have hm := (List.of_mem_zip hz).1
    have h0 := v.pr q0 hm
    have hl := (v.inv.ok.pr q0 hm).2.2
    have hr := a1 (q0, n) hz
    rw [Bool.and_eq_true] at hr
    refine ⟨fun k hk => ?_, ?_⟩
    · rcases List.mem_append.mp hk with h | h
      · exact h0.mv k h
      · rw [List.mem_singleton.mp h]
        exact ⟨of_decide_eq_true hr.1, of_decide_eq_true hr.2⟩
    · show (q0.moves ++ [n]).getD 0 0 = -2
      have h3 := h0.m0
      rw [List.getD_eq_getElem?_getD] at h3 ⊢
      rw [List.getElem?_append_left (by omega)]
      exact h3
  · obtain ⟨⟨x0, n⟩, hz, rfl⟩ := List.mem_map.mp hx
    have hm := (List.of_mem_zip hz).1
    have h0 := v.se x0 hm
    obtain ⟨_, _, hl1, hl2⟩ := v.inv.ok.se x0 hm
    have hr := a2 n (List.of_mem_zip hz).2
    rw [Bool.and_eq_true] at hr
    refine ⟨fun k hk => ?_, fun t ht => ?_⟩
    · rcases List.mem_append.mp hk with h | h
      · exact h0.rd k h
      · rw [List.mem_singleton.mp h]
        exact of_decide_eq_true hr.1
    · have ht2 : t < x0.first := ht
      show (x0.readings ++ [n]).getD t (-1) = -1
      have h3 := h0.pre t ht2
      rw [List.getD_eq_getElem?_getD] at h3 ⊢
      rw [List.getElem?_append_left (by omega)]
      exact h3
  · have : m.begun = false := z
    rw [hb] at this
    cases this
  · have : m.begun = false := z
    rw [hb] at this
    cases this
theorem aR_stepped (hb : m.begun = true) {ms rs : List Int} : aR (stepped m ms rs) = { Vberac.put (aR m) (ms.map aMove) (rs.map aRead) with now := m.now + 1 } := by
  have e1 : ((m.props.zip ms).map fun x => ({ x.1 with moves := x.1.moves ++ [x.2] } : Pr)).map (aP true) = ((m.props.map (aP true)).zip (ms.map aMove)).map fun x => ({ x.1 with moves := x.1.moves ++ [x.2] } : Vberac.Prop_) := zip_two _ _ _ _ _ fun q hq n hn => by
    show (⟨q.size, (q.moves ++ [n]).map aMove⟩ : Vberac.Prop_) = ⟨q.size, q.moves.map aMove ++ [aMove n]⟩
    rw [List.map_append]
    rfl
  have e2 : ((m.sensors.zip rs).map fun x => ({ x.1 with readings := x.1.readings ++ [x.2] } : Se)).map (aS true) = ((m.sensors.map (aS true)).zip (rs.map aRead)).map fun x => ({ x.1 with reads := x.1.reads ++ [x.2] } : Vberac.Sensor) := zip_two _ _ _ _ _ fun x hx n hn => by
    obtain ⟨_, _, h1, h2⟩ := v.inv.ok.se x hx
    show (⟨x.prop, x.error, x.first, ((x.readings ++ [n]).drop x.first).map aRead⟩ : Vberac.Sensor) = ⟨x.prop, x.error, x.first, (x.readings.drop x.first).map aRead ++ [aRead n]⟩
    rw [List.drop_append_of_le_length (by omega), List.map_append]
    rfl
  unfold aR
  show ({ props := ((m.props.zip ms).map fun x => ({ x.1 with moves := x.1.moves ++ [x.2] } : Pr)).map (aP m.begun), sensors := ((m.sensors.zip rs).map fun x => ({ x.1 with readings := x.1.readings ++ [x.2] } : Se)).map (aS m.begun), now := m.now + 1, begun := m.begun, most := m.most } : Vberac.State) = { props := ((m.props.map (aP m.begun)).zip (ms.map aMove)).map fun x => ({ x.1 with moves := x.1.moves ++ [x.2] } : Vberac.Prop_), sensors := ((m.sensors.map (aS m.begun)).zip (rs.map aRead)).map fun x => ({ x.1 with reads := x.1.reads ++ [x.2] } : Vberac.Sensor), now := m.now + 1, begun := m.begun, most := m.most }
  rw [hb, e1, e2]
theorem do_tick (ms rs : List Int) : Both m (.tick ms rs) (doTick m ms rs) := by
  unfold Both doTick
  show (match Vberac.movesIn (m.props.map (aP m.begun)) ms, Vberac.readsIn rs with
    | some a, some r => if r.length ≠ (m.sensors.map (aS m.begun)).length then Vberac.no (aR m) 1 else if m.begun = false then Vberac.no (aR m) 3 else if Vberac.TICKS ≤ m.now then Vberac.no (aR m) 5 else
      Vberac.yes { Vberac.put (aR m) a r with now := m.now + 1 } [(((m.now + 1 : Nat)) : Int), Vberac.bit ((Vberac.fewestAll { Vberac.put (aR m) a r with now := m.now + 1 }).any fun z => decide (z ≤ m.most))]
    | _, _ => Vberac.no (aR m) 1) = _ ∧ _
  rw [moves_in, reads_in, List.length_map]
  by_cases q : movesRight m ms = true ∧ readingsRight m rs = true
  · have h2 := q.2
    unfold readingsRight at h2
    rw [Bool.and_eq_true] at h2
    rw [if_pos (show (decide (ms.length = m.props.length) && (m.props.zip ms).all fun x => decide (-2 ≤ x.2) && decide (x.2 < (x.1.size : Int))) = true from q.1), if_pos h2.2, if_neg (show ¬ ¬ (movesRight m ms = true ∧ readingsRight m rs = true) from fun z => z q)]
    show (if (rs.map aRead).length ≠ m.sensors.length then Vberac.no (aR m) 1 else if m.begun = false then Vberac.no (aR m) 3 else if Vberac.TICKS ≤ m.now then Vberac.no (aR m) 5 else
      Vberac.yes { Vberac.put (aR m) (ms.map aMove) (rs.map aRead) with now := m.now + 1 } [(((m.now + 1 : Nat)) : Int), Vberac.bit ((Vberac.fewestAll { Vberac.put (aR m) (ms.map aMove) (rs.map aRead) with now := m.now + 1 }).any fun z => decide (z ≤ m.most))]) = _ ∧ _
    rw [List.length_map, if_neg (show ¬ rs.length ≠ m.sensors.length from fun z => z (of_decide_eq_true h2.1))]
    rcases (bcases m.begun).symm with hb | hb
    · rw [no3f hb, no3f hb]
      exact ⟨rfl, v⟩
    · rw [no3 hb, no3 hb]
      have hn := v.inv.ok.now
      by_cases h24 : m.now = 24
      · rw [if_pos h24, if_pos (show Vberac.TICKS ≤ m.now by show 24 ≤ _; omega)]
        exact ⟨rfl, v⟩
      · rw [if_neg h24, if_neg (show ¬ Vberac.TICKS ≤ m.now by show ¬ 24 ≤ _; omega)]
        have v2 := v_stepped v hb (by omega) q.1 q.2
        refine ⟨?_, v2⟩
        rw [← aR_stepped v hb]
        have hc := canBe_eq v2 hb
        show ((aR (stepped m ms rs), [0, (((m.now + 1 : Nat)) : Int), Vberac.bit ((Vberac.fewestAll (aR (stepped m ms rs))).any fun z => decide (z ≤ m.most))]) : Vberac.State × List Int) = (aR (stepped m ms rs), [0, (m.now : Int) + 1, Mi.bit (canBe (stepped m ms rs))])
        rw [hc]
        rfl
  · rw [if_pos q]
    refine ⟨?_, v⟩
    by_cases q1 : movesRight m ms = true
    · rw [if_pos (show (decide (ms.length = m.props.length) && (m.props.zip ms).all fun x => decide (-2 ≤ x.2) && decide (x.2 < (x.1.size : Int))) = true from q1)]
      have q2 : ¬ readingsRight m rs = true := fun z => q ⟨q1, z⟩
      unfold readingsRight at q2
      by_cases q3 : (rs.all fun n => decide (-1 ≤ n) && decide (n ≤ 1000)) = true
      · rw [if_pos q3]
        show (if (rs.map aRead).length ≠ m.sensors.length then Vberac.no (aR m) 1 else _) = _
        rw [List.length_map, if_pos (show rs.length ≠ m.sensors.length from fun z => q2 (by rw [decide_eq_true z, q3]; rfl))]
        rfl
      · rw [if_neg q3]
        rfl
    · rw [if_neg (show ¬ (decide (ms.length = m.props.length) && (m.props.zip ms).all fun x => decide (-2 ≤ x.2) && decide (x.2 < (x.1.size : Int))) = true from q1)]
      rfl
theorem do_mend (i : Int) : Both m (.mend i) (doMend m i) := by
  unfold Both doMend
  show (if Vberac.isSensor (aR m) i = false then Vberac.no (aR m) 1 else if m.begun = false then Vberac.no (aR m) 3 else
    Vberac.yes { aR m with sensors := ((List.range (m.sensors.map (aS m.begun)).length).zip (m.sensors.map (aS m.begun))).map fun x => if (x.1 : Int) = i then { x.2 with since := m.now + 1, reads := [] } else x.2 } []) = _ ∧ _
  rw [isSensor_eq]
  rcases (bcases (isSensor m i)).symm with h | h
  · rw [no3f h, no3f h]
    exact ⟨rfl, v⟩
  rw [no3 h, no3 h]
  rcases (bcases m.begun).symm with hb | hb
  · rw [no3f hb, no3f hb]
    exact ⟨rfl, v⟩
  rw [no3 hb, no3 hb]
  obtain ⟨k, rfl, hk⟩ := isSensor_nat h
  rw [Int.toNat_natCast]
  refine ⟨?_, ⟨⟨ok_mended v.inv.ok _, fun z => ?_⟩, v.pr, fun x hx => ?_, fun z => ?_, fun z => ?_⟩⟩
  · have e : ((List.range (m.sensors.map (aS m.begun)).length).zip (m.sensors.map (aS m.begun))).map (fun x => if (x.1 : Int) = (k : Int) then ({ x.2 with since := m.now + 1, reads := [] } : Vberac.Sensor) else x.2) = (m.sensors.modify k fun x => ({ x with first := m.now + 1, readings := List.replicate (m.now + 1) (-1) } : Se)).map (aS m.begun) := by
      refine List.ext_getElem? fun j => ?_
      rw [List.getElem?_map, List.getElem?_map, List.getElem?_modify, List.length_map]
      by_cases hj : j < m.sensors.length
      · have h1 : (List.range m.sensors.length)[j]? = some j := List.getElem?_range hj
        have h2 : (m.sensors.map (aS m.begun))[j]? = some (aS m.begun (seAt m j)) := asensor_at hj
        rw [(List.getElem?_zip_eq_some (z := (j, aS m.begun (seAt m j)))).mpr ⟨h1, h2⟩, sensor_at hj]
        show some (if (j : Int) = (k : Int) then _ else _) = some (aS m.begun (if k = j then _ else _))
        by_cases e : k = j
        · subst e
          rw [if_pos rfl, if_pos rfl, hb]
          refine congrArg some ?_
          show (⟨(seAt m k).prop, (seAt m k).error, m.now + 1, []⟩ : Vberac.Sensor) = ⟨(seAt m k).prop, (seAt m k).error, m.now + 1, ((List.replicate (m.now + 1) (-1 : Int)).drop (m.now + 1)).map aRead⟩
          rw [List.drop_eq_nil_of_le (by rw [List.length_replicate]; exact Nat.le_refl _)]
          rfl
        · rw [if_neg (by omega), if_neg e]
      · rw [List.getElem?_eq_none (by rw [List.length_zip, List.length_range, List.length_map]; omega), List.getElem?_eq_none (by omega)]
        rfl
    show (({ aR m with sensors := _ } : Vberac.State), ([0] : List Int)) = (({ aR m with sensors := (m.sensors.modify k fun x => ({ x with first := m.now + 1, readings := List.replicate (m.now + 1) (-1) } : Se)).map (aS m.begun) } : Vberac.State), ([0] : List Int))
    rw [e]
  · have : m.begun = false := z
    rw [hb] at this
    cases this
  · obtain ⟨j, hj⟩ := List.mem_iff_getElem?.mp hx
    have hj' : (fun a => if k = j then ({ a with first := m.now + 1, readings := List.replicate (m.now + 1) (-1) } : Se) else a) <$> m.sensors[j]? = some x := by
      rw [← List.getElem?_modify]
      exact hj
    obtain ⟨y, hy, rfl⟩ := Option.map_eq_some_iff.mp hj'
    have hys := v.se y (List.mem_of_getElem? hy)
    by_cases e : k = j
    · rw [if_pos e]
      refine ⟨fun n hn => ?_, fun t ht => ?_⟩
      · rw [(List.mem_replicate.mp hn).2]
        exact Int.le_refl _
      · show (List.replicate (m.now + 1) (-1 : Int)).getD t (-1) = -1
        rw [List.getD_eq_getElem?_getD, List.getElem?_replicate]
        split <;> rfl
    · rw [if_neg e]
      exact hys
  · have : m.begun = false := z
    rw [hb] at this
    cases this
  · have : m.begun = false := z
    rw [hb] at this
    cases this
end
end Lw
/-! part Lj -/
namespace Lw
open Mi
theorem row60 {t : List Int} (h : VberacNeutral.isRow t = true) : t.length ≤ 100 := by
  unfold VberacNeutral.isRow at h
  rw [Bool.and_eq_true] at h
  have := of_decide_eq_true h.1
  omega
theorem rows0 : ∀ row ∈ ([] : List (List Int)), row.length ≤ 100 := fun _ h => by cases h
theorem rows1 {a : List Int} (h : a.length ≤ 100) : ∀ row ∈ [a], row.length ≤ 100 := fun r hr => by
  rw [List.mem_singleton.mp hr]
  exact h
theorem rows2 {a b : List Int} (h : a.length ≤ 100) (h2 : b.length ≤ 100) : ∀ row ∈ [a, b], row.length ≤ 100 := fun r hr => by
  rcases List.mem_cons.mp hr with e | e
  · rw [e]
    exact h
  · rw [List.mem_singleton.mp e]
    exact h2
theorem cok (k : Nat) {a : List Int} {xs : List (List Int)} (hk : k < 20) (h1 : a.length = nums.getD k 0) (h2 : xs.length = rws.getD k 0) (hr : ∀ row ∈ xs, row.length ≤ 100) : COk (((k : Int) :: a) :: xs) := ⟨_, a, xs, rfl, ⟨⟨k, rfl, hk, h1, h2⟩, hr⟩⟩
/-- a call: its shape, what it answers, what stays true -/
structure Cl (c : List (List Int)) : Prop where
  ok : COk c
  st : ∀ m, V m → VberacNeutral.step (aR m) c = (aR (stepC m c).1, (stepC m c).2) ∧ V (stepC m c).1
theorem call_ok {c : List (List Int)} (h : VberacNeutral.asked1 c = true) : Cl c := by
  unfold VberacNeutral.asked1 at h
  split at h
  · exact ⟨cok 0 (by decide) rfl rfl rows0, fun m v => do_begin v _⟩
  · exact ⟨cok 1 (by decide) rfl rfl rows0, fun m v => do_prop v _⟩
  · exact ⟨cok 2 (by decide) rfl rfl rows0, fun m v => do_sensor v _ _⟩
  · exact ⟨cok 3 (by decide) rfl rfl rows0, fun m v => do_go v⟩
  · rw [Bool.and_eq_true] at h
    exact ⟨cok 4 (by decide) rfl rfl (rows2 (row60 h.1) (row60 h.2)), fun m v => do_tick v _ _⟩
  · exact ⟨cok 5 (by decide) rfl rfl rows0, fun m v => ⟨say_where v _ _, v⟩⟩
  · exact ⟨cok 6 (by decide) rfl rfl rows0, fun m v => ⟨say_blame v _, v⟩⟩
  · exact ⟨cok 7 (by decide) rfl rfl rows0, fun m v => ⟨say_since v _, v⟩⟩
  · exact ⟨cok 8 (by decide) rfl rfl rows0, fun m v => ⟨say_fewest v, v⟩⟩
  · exact ⟨cok 9 (by decide) rfl rfl rows0, fun m v => ⟨say_explain v _, v⟩⟩
  · rw [Bool.and_eq_true, Bool.and_eq_true] at h
    exact ⟨cok 10 (by decide) rfl rfl (rows2 (row60 h.2.1) (row60 h.2.2)), fun m v => ⟨say_check v _ _ _, v⟩⟩
  · exact ⟨cok 11 (by decide) rfl rfl rows0, fun m v => ⟨say_sure v, v⟩⟩
  · exact ⟨cok 12 (by decide) rfl rfl rows0, fun m v => ⟨say_vote v _, v⟩⟩
  · exact ⟨cok 13 (by decide) rfl rfl rows0, fun m v => ⟨say_settle v _ _, v⟩⟩
  · rw [Bool.and_eq_true] at h
    exact ⟨cok 14 (by decide) rfl rfl (rows1 (row60 h.2)), fun m v => ⟨say_settles v _ _, v⟩⟩
  · exact ⟨cok 15 (by decide) rfl rfl rows0, fun m v => do_mend v _⟩
  · exact ⟨cok 16 (by decide) rfl rfl rows0, fun m v => ⟨say_reads v _, v⟩⟩
  · exact ⟨cok 17 (by decide) rfl rfl rows0, fun m v => ⟨say_state v, v⟩⟩
  · exact ⟨cok 18 (by decide) rfl rfl rows0, fun m v => ⟨say_ways v _, v⟩⟩
  · exact ⟨cok 19 (by decide) rfl rfl rows0, fun m v => do_allow v _⟩
  · cases h
theorem played_eq : ∀ {cs : List (List (List Int))} {m : Ro}, (∀ c ∈ cs, Cl c) → V m → PyFlat.played VberacNeutral.step (aR m) cs = PyFlat.played stepC m cs
  | [], _, _, _ => rfl
  | c :: cs, m, h, v => by
    obtain ⟨h1, h2⟩ := (h c List.mem_cons_self).st m v
    show (VberacNeutral.step (aR m) c).2 :: PyFlat.played VberacNeutral.step (VberacNeutral.step (aR m) c).1 cs = (stepC m c).2 :: PyFlat.played stepC (stepC m c).1 cs
    rw [h1]
    exact congrArg (_ :: ·) (played_eq (fun d hd => h d (List.mem_cons_of_mem _ hd)) h2)
theorem whole_id (c : List (List Int)) : PyVberac.whole c = c := by
  unfold PyVberac.whole
  split <;> rfl
end Lw
namespace Sk
theorem law (l : List Int) (h : PyVberac.answers_asked l = true) : ∃ cs, l = PyFlat.put cs ∧ (∀ c ∈ cs, Mi.COk c) ∧ PyFlat.told (PyFlat.played Mi.stepC Mi.Ro.fresh cs) = PyVberac.answers l ∧ (PyVberac.answers l).length ≤ 10000000 := by
  unfold PyVberac.answers_asked at h
  cases hc : PyFlat.calls PyVberac.shape l.length l with
  | none =>
    rw [hc] at h
    cases h
  | some raw =>
    rw [hc] at h
    have h' : (!raw.isEmpty && PyFlat.atMost 120 raw && PyInside.calls PyVberac.bound raw && VberacNeutral.asked (raw.map PyVberac.whole) && PyFlat.short 10000000 (PyVberac.answers l)) = true := h
    rw [Bool.and_eq_true, Bool.and_eq_true] at h'
    obtain ⟨⟨_, h3⟩, h4⟩ := h'
    have ew : raw.map PyVberac.whole = raw := by
      have e : PyVberac.whole = id := funext Lw.whole_id
      rw [e, List.map_id]
    rw [ew] at h3
    unfold VberacNeutral.asked at h3
    rw [Bool.and_eq_true] at h3
    have hall := List.all_eq_true.mp h3.1
    have hcl : ∀ c ∈ raw, Lw.Cl c := fun c hcc => Lw.call_ok (hall c hcc)
    obtain ⟨e1, _⟩ := PyFlat.put_calls _ _ _ hc
    refine ⟨raw, e1, fun c hcc => (hcl c hcc).ok, ?_, of_decide_eq_true h4⟩
    unfold PyVberac.answers PyVberac.calls
    rw [hc]
    show _ = PyFlat.told (PyFlat.played VberacNeutral.step VberacNeutral.start (raw.map PyVberac.whole))
    rw [ew]
    exact congrArg PyFlat.told (Lw.played_eq (m := Mi.Ro.fresh) hcl (Lw.v_fresh (n := 0) (Nat.zero_le _))).symm
end Sk
/-! part Dv0 -/
namespace Sk
open PySem PySem.Spec PyProof.Rows L2 Evl
theorem sc_Prop_init : FnScope N_Prop_init ["self", "size"] (defScope s_Prop_init) := ⟨rfl, rfl, rfl, by decide +kernel, rfl, by decide +kernel, by decide +kernel⟩
theorem sc_Room_add_prop : FnScope N_Room_add_prop ["self", "size"] (defScope s_Room_add_prop) := ⟨rfl, rfl, rfl, by decide +kernel, rfl, by decide +kernel, by decide +kernel⟩
theorem sc_Room_mend : FnScope N_Room_mend ["self", "number"] (defScope s_Room_mend) := ⟨rfl, rfl, rfl, by decide +kernel, rfl, by decide +kernel, by decide +kernel⟩
theorem sc_sensors_of : FnScope N_sensors_of ["room", "prop"] (defScope s_sensors_of) := ⟨rfl, rfl, rfl, by decide +kernel, rfl, by decide +kernel, by decide +kernel⟩
theorem sc_leads : FnScope N_leads ["position", "move", "afters"] (defScope s_leads) := ⟨rfl, rfl, rfl, by decide +kernel, rfl, by decide +kernel, by decide +kernel⟩
theorem sc_least_course : FnScope N_least_course ["moves", "allowed"] (defScope s_least_course) := ⟨rfl, rfl, rfl, by decide +kernel, rfl, by decide +kernel, by decide +kernel⟩
theorem sc_readings_from : FnScope N_readings_from ["sensor", "tick"] (defScope s_readings_from) := ⟨rfl, rfl, rfl, by decide +kernel, rfl, by decide +kernel, by decide +kernel⟩
theorem sc_may_have : FnScope N_may_have ["sensor", "fault", "now"] (defScope s_may_have) := ⟨rfl, rfl, rfl, by decide +kernel, rfl, by decide +kernel, by decide +kernel⟩
theorem sc_whole : FnScope N_whole ["size", "now"] (defScope s_whole) := ⟨rfl, rfl, rfl, by decide +kernel, rfl, by decide +kernel, by decide +kernel⟩
theorem sc_possible : FnScope N_possible ["room", "prop"] (defScope s_possible) := ⟨rfl, rfl, rfl, by decide +kernel, rfl, by decide +kernel, by decide +kernel⟩
theorem sc_something : FnScope N_something ["few", "most"] (defScope s_something) := ⟨rfl, rfl, rfl, by decide +kernel, rfl, by decide +kernel, by decide +kernel⟩
theorem sc_left_of : FnScope N_left_of ["room", "prop"] (defScope s_left_of) := ⟨rfl, rfl, rfl, by decide +kernel, rfl, by decide +kernel, by decide +kernel⟩
theorem sc_do_go : FnScope N_do_go ["room"] (defScope s_do_go) := ⟨rfl, rfl, rfl, by decide +kernel, rfl, by decide +kernel, by decide +kernel⟩
theorem sc_do_mend : FnScope N_do_mend ["room", "sensor"] (defScope s_do_mend) := ⟨rfl, rfl, rfl, by decide +kernel, rfl, by decide +kernel, by decide +kernel⟩
theorem sc_say_fewest : FnScope N_say_fewest ["room"] (defScope s_say_fewest) := ⟨rfl, rfl, rfl, by decide +kernel, rfl, by decide +kernel, by decide +kernel⟩
theorem sc_say_vote : FnScope N_say_vote ["room", "prop"] (defScope s_say_vote) := ⟨rfl, rfl, rfl, by decide +kernel, rfl, by decide +kernel, by decide +kernel⟩
theorem sc_stuck_reads : FnScope N_stuck_reads ["sensor", "tick"] (defScope s_stuck_reads) := ⟨rfl, rfl, rfl, by decide +kernel, rfl, by decide +kernel, by decide +kernel⟩
theorem sc_alike : FnScope N_alike ["one", "two"] (defScope s_alike) := ⟨rfl, rfl, rfl, by decide +kernel, rfl, by decide +kernel, by decide +kernel⟩
theorem sc_longer_rows : FnScope N_longer_rows ["rows", "size"] (defScope s_longer_rows) := ⟨rfl, rfl, rfl, by decide +kernel, rfl, by decide +kernel, by decide +kernel⟩
theorem sc_place_in_five : FnScope N_place_in_five ["fault"] (defScope s_place_in_five) := ⟨rfl, rfl, rfl, by decide +kernel, rfl, by decide +kernel, by decide +kernel⟩
theorem sc_never_fine : FnScope N_never_fine ["room", "table", "number"] (defScope s_never_fine) := ⟨rfl, rfl, rfl, by decide +kernel, rfl, by decide +kernel, by decide +kernel⟩
theorem sc_say_settles : FnScope N_say_settles ["room", "number", "told"] (defScope s_say_settles) := ⟨rfl, rfl, rfl, by decide +kernel, rfl, by decide +kernel, by decide +kernel⟩
theorem sc_ask_sensor : FnScope N_ask_sensor ["room", "call", "numbers", "rows"] (defScope s_ask_sensor) := ⟨rfl, rfl, rfl, by decide +kernel, rfl, by decide +kernel, by decide +kernel⟩
section
variable {P : Program} {w : World} {K : PySem.W.Frag} {mg : Str → Option Value} {base : Heap} {C : Cs}
theorem ok_Prop_init (T : Txt K mg C) {f : Addr} {fd : FuncData} (F : Fun K "__init__" "Prop.__init__" s_Prop_init f fd)  : FnOk P w K mg base CX0 1 f fd ["self", "size"] (sp_Prop_init K C) := by
  refine F.ok sc_Prop_init (fun _ _ _ _ h => len_Prop_init h) (fun cdv A outer s H vs Q E hr h => ⟨t_Prop_init K C, ?_, rd_Prop_init T h⟩)
  exact (pss_cons (ps_fld (pv 0) (pv 1) rfl)
    (pss_one (ps_fld (pv 0) (pe_lst (pa_cons (pe_globI rfl T.g_LOOSE_room) pa_nil)) rfl)))
theorem ok_Room_add_prop (T : Txt K mg C) {f : Addr} {fd : FuncData} (F : Fun K "add_prop" "Room.add_prop" s_Room_add_prop f fd) (D_Prop_init : DefC P w K mg base 1 "Prop" C.P ["self", "size"] (sp_Prop_init K C)) : FnOk P w K mg base CX0 3 f fd ["self", "size"] (sp_Room_add_prop K C) := by
  refine F.ok sc_Room_add_prop (fun _ _ _ _ h => len_Room_add_prop h) (fun cdv A outer s H vs Q E hr h => ⟨t_Room_add_prop K C, ?_, rd_Room_add_prop T h⟩)
  exact (pss_one (ps_expr (pe_bm PySem.F.plainAttrs_list PySem.F.slot_list_append PySem.F.type_list_append mt_append (pe_fld (pv 0) rfl) (pa_cons (pc_make D_Prop_init (hr.mono (by decide)) rfl (pa_cons (pv 1) pa_nil)) pa_nil))))
theorem ok_Room_mend (T : Txt K mg C) {f : Addr} {fd : FuncData} (F : Fun K "mend" "Room.mend" s_Room_mend f fd)  : FnOk P w K mg base CX0 1 f fd ["self", "number"] (sp_Room_mend K C) := by
  refine F.ok sc_Room_mend (fun _ _ _ _ h => len_Room_mend h) (fun cdv A outer s H vs Q E hr h => ⟨t_Room_mend K C, ?_, rd_Room_mend T h⟩)
  exact (pss_cons (ps_set (i := 2) sc_Room_mend.nd rfl (Or.inl rfl) (pe_ix ix_list (pe_fld (pv 0) rfl) (pv 1) (fun _ _ => rfl)))
    (pss_cons (ps_fld (pv 2) (pe_op op_add (pe_fld (pv 0) rfl) pe_int) rfl)
    (pss_one (ps_fld (pv 2) (pe_op op_rep (pe_lst (pa_cons (pe_globI rfl T.g_NOTHING_room) pa_nil)) (pe_op op_add (pe_fld (pv 0) rfl) pe_int)) rfl))))
theorem rd_sensors_of (T : Txt K mg C) {vs : List V} {H : Hp} {Q : VK} {E : XK} (h : sp_sensors_of K C vs H Q E) : t_sensors_of K C { nx := fun _ H' => Q .non H', rt := Q } (start N_sensors_of vs) H := mSp_rd (fun ⟨r, p⟩ us G hv hk => bd_sensors_of T r p hv hk) h
theorem ok_sensors_of (T : Txt K mg C) {f : Addr} {fd : FuncData} (F : Fun K "sensors_of" "sensors_of" s_sensors_of f fd)  : FnOk P w K mg base CX0 1 f fd ["room", "prop"] (sp_sensors_of K C) := by
  refine F.ok sc_sensors_of (fun _ _ _ _ h => len_sensors_of h) (fun cdv A outer s H vs Q E hr h => ⟨t_sensors_of K C, ?_, rd_sensors_of T h⟩)
  exact (pss_one (ps_ret (pe_lc (own := [("sensor", 2)]) (g := (gName 2)) rfl sc_sensors_of.nd (pi_list (pe_fld (pv 0) rfl)) (blkOk_by (own := [("sensor", 2)]) (N := N_sensors_of) (sc := defScope s_sensors_of) (by decide +kernel)) (fun _ _ _ _ _ => (pg_name (i := 2) sc_sensors_of.nd rfl (Or.inl rfl))) (fun _ _ _ _ _ => (pts_one (pt_cmpR op_eq (pe_fld (pv 2) rfl) (pv 1) (nomark _)))) (fun _ _ _ _ _ => (pv 2)))))
theorem rd_leads (T : Txt K mg C) {vs : List V} {H : Hp} {Q : VK} {E : XK} (h : sp_leads K C vs H Q E) : t_leads K C { nx := fun _ H' => Q .non H', rt := Q } (start N_leads vs) H := mSp_rd (fun ⟨p, m, bs⟩ us G hv hk => bd_leads T p m bs hv hk) h
theorem ok_leads (T : Txt K mg C) {f : Addr} {fd : FuncData} (F : Fun K "leads" "leads" s_leads f fd)  : FnOk P w K mg base CX0 1 f fd ["position", "move", "afters"] (sp_leads K C) := by
  refine F.ok sc_leads (fun _ _ _ _ h => len_leads h) (fun cdv A outer s H vs Q E hr h => ⟨t_leads K C, ?_, rd_leads T h⟩)
  exact (pss_cons (ps_if (pt_cmpR op_eq (pv 1) (pe_globI rfl T.g_HELD) (nomark _)) (pss_one (ps_ret (pe_cmpR op_in_seq (pv 0) (pv 2) (by rfl)))) pss_nil)
    (pss_cons (ps_if (pt_cmpR op_eq (pv 1) (pe_globI rfl T.g_LOOSE_courses) (nomark _)) (pss_one (ps_ret (pe_cmpR op_gt (pe_callB call_len_seq (by rfl) T.b_len PySem.boot_len (pa_cons (pv 2) pa_nil)) pe_int (nomark _)))) pss_nil)
    (pss_one (ps_ret (pe_cmpR op_in_seq (pv 1) (pv 2) (by rfl))))))
theorem rd_least_course (T : Txt K mg C) {vs : List V} {H : Hp} {Q : VK} {E : XK} (h : sp_least_course K C vs H Q E) : t_least_course K C { nx := fun _ H' => Q .non H', rt := Q } (start N_least_course vs) H := mSp_rd (fun ⟨ms, al⟩ us G hv hk => bd_least_course T ms al hv hk) h
theorem ok_least_course (T : Txt K mg C) {f : Addr} {fd : FuncData} (F : Fun K "least_course" "least_course" s_least_course f fd) (D_forward : Def P w K mg base 2 "forward" ["moves", "allowed"] (sp_forward K C)) (D_goes : Def P w K mg base 1 "goes" ["move", "before", "after"] (sp_goes K C)) : FnOk P w K mg base CX0 3 f fd ["moves", "allowed"] (sp_least_course K C) := by
  refine F.ok sc_least_course (fun _ _ _ _ h => len_least_course h) (fun cdv A outer s H vs Q E hr h => ⟨t_least_course K C, ?_, rd_least_course T h⟩)
  exact (pss_cons (ps_set (i := 2) sc_least_course.nd rfl (Or.inl rfl) (pc D_forward (hr.mono (by decide)) (by rfl) (pa_cons (pv 0) (pa_cons (pv 1) pa_nil))))
    (pss_cons (ps_set (i := 3) sc_least_course.nd rfl (Or.inl rfl) (pe_lst (pa_cons (pe_callB (cr_min rfl) (by rfl) T.b_min (by decide +kernel) (pa_cons (pe_ix ix_list (pv 2) (pe_op op_sub (pe_callB call_len_seq (by rfl) T.b_len PySem.boot_len (pa_cons (pv 2) pa_nil)) pe_int) (fun _ _ => rfl)) pa_nil)) pa_nil)))
    (pss_cons (ps_for PassesOwn.never rfl (pi_range3 (by rfl) T.b_range (pa_cons (pe_op op_sub (pe_callB call_len_seq (by rfl) T.b_len PySem.boot_len (pa_cons (pv 0) pa_nil)) pe_int) (pa_cons pe_int (pa_cons (pe_un un_neg pe_int) pa_nil)))) (pg_name (i := 4) sc_least_course.nd rfl (Or.inr rfl)) (pss_cons (ps_set (i := 5) sc_least_course.nd rfl (Or.inr rfl) (pe_ix ix_list (pv 3) (pe_op op_sub (pe_callB call_len_seq (by rfl) T.b_len PySem.boot_len (pa_cons (pv 3) pa_nil)) pe_int) (fun _ _ => rfl)))
    (pss_one (ps_expr (pe_bm PySem.F.plainAttrs_list PySem.F.slot_list_append PySem.F.type_list_append mt_append (pv 3) (pa_cons (pe_callB (cr_min rfl) (by rfl) T.b_min (by decide +kernel) (pa_cons (pe_lc (own := [("position", 6)]) (g := (gName 6)) rfl sc_least_course.nd (pi_list (pe_ix ix_list (pv 2) (pe_op op_sub (pv 4) pe_int) (fun _ _ => rfl))) (blkOk_by (own := [("position", 6)]) (N := N_least_course) (sc := defScope s_least_course) (by decide +kernel)) (fun _ _ _ _ _ => (pg_name (i := 6) sc_least_course.nd rfl (Or.inl rfl))) (fun _ _ _ _ _ => (pts_one (pt_val (pc D_goes (hr.mono (by decide)) (by rfl) (pa_cons (pe_ix ix_list (pv 0) (pv 4) (fun _ _ => rfl)) (pa_cons (pv 6) (pa_cons (pv 5) pa_nil))))))) (fun _ _ _ _ _ => (pv 6))) pa_nil)) pa_nil))))))
    (pss_one (ps_ret (pe_revL (pv 3)))))))
theorem rd_readings_from (T : Txt K mg C) {vs : List V} {H : Hp} {Q : VK} {E : XK} (h : sp_readings_from K C vs H Q E) : t_readings_from K C { nx := fun _ H' => Q .non H', rt := Q } (start N_readings_from vs) H := mSp_rd (fun ⟨x, t⟩ us G hv hk => bd_readings_from T x t hv hk) h
theorem ok_readings_from (T : Txt K mg C) {f : Addr} {fd : FuncData} (F : Fun K "readings_from" "readings_from" s_readings_from f fd)  : FnOk P w K mg base CX0 1 f fd ["sensor", "tick"] (sp_readings_from K C) := by
  refine F.ok sc_readings_from (fun _ _ _ _ h => len_readings_from h) (fun cdv A outer s H vs Q E hr h => ⟨t_readings_from K C, ?_, rd_readings_from T h⟩)
  exact (pss_one (ps_ret (pe_lc (own := [("reading", 2)]) (g := (gName 2)) rfl sc_readings_from.nd (pi_list (pe_slice sl_list (pe_fld (pv 0) rfl) (po_some (pv 1)) po_none)) (blkOk_by (own := [("reading", 2)]) (N := N_readings_from) (sc := defScope s_readings_from) (by decide +kernel)) (fun _ _ _ _ _ => (pg_name (i := 2) sc_readings_from.nd rfl (Or.inl rfl))) (fun _ _ _ _ _ => (pts_one (pt_cmpR op_ne (pv 2) (pe_globI rfl T.g_NOTHING_sights) (nomark _)))) (fun _ _ _ _ _ => (pv 2)))))
theorem rd_may_have (T : Txt K mg C) {vs : List V} {H : Hp} {Q : VK} {E : XK} (h : sp_may_have K C vs H Q E) : t_may_have K C { nx := fun _ H' => Q .non H', rt := Q } (start N_may_have vs) H := mSp_rd (fun ⟨x, f, now⟩ us G hv hk => bd_may_have T x f now hv hk) h
theorem ok_may_have (T : Txt K mg C) {f : Addr} {fd : FuncData} (F : Fun K "may_have" "may_have" s_may_have f fd) (D_can_stick : Def P w K mg base 2 "can_stick" ["sensor", "tick"] (sp_can_stick K C)) : FnOk P w K mg base CX0 3 f fd ["sensor", "fault", "now"] (sp_may_have K C) := by
  refine F.ok sc_may_have (fun _ _ _ _ h => len_may_have h) (fun cdv A outer s H vs Q E hr h => ⟨t_may_have K C, ?_, rd_may_have T h⟩)
  exact (pss_cons (ps_if (pt_cmpR op_lt (pv 1) (pe_globI rfl T.g_STUCK) (nomark _)) (pss_one (ps_ret pe_bl)) pss_nil)
    (pss_cons (ps_set (i := 3) sc_may_have.nd rfl (Or.inl rfl) (pe_op op_sub (pv 1) (pe_globI rfl T.g_STUCK)))
    (pss_one (ps_ret (pe_and (pe_chain op_le op_le (pe_fld (pv 0) rfl) (pv 3) (pv 2)) (pe_one (pc D_can_stick (hr.mono (by decide)) (by rfl) (pa_cons (pv 0) (pa_cons (pv 3) pa_nil)))))))))
theorem rd_whole (T : Txt K mg C) {vs : List V} {H : Hp} {Q : VK} {E : XK} (h : sp_whole K C vs H Q E) : t_whole K C { nx := fun _ H' => Q .non H', rt := Q } (start N_whole vs) H := mSp_rd (fun ⟨size, now⟩ us G hv hk => bd_whole T size now hv hk) h
theorem ok_whole (T : Txt K mg C) {f : Addr} {fd : FuncData} (F : Fun K "whole" "whole" s_whole f fd)  : FnOk P w K mg base CX0 1 f fd ["size", "now"] (sp_whole K C) := by
  refine F.ok sc_whole (fun _ _ _ _ h => len_whole h) (fun cdv A outer s H vs Q E hr h => ⟨t_whole K C, ?_, rd_whole T h⟩)
  exact (pss_one (ps_ret (pe_lc (own := [("tick", 2)]) (g := (gName 2)) rfl sc_whole.nd (pi_range1 (by rfl) T.b_range (pa_cons (pe_op op_add (pv 1) pe_int) pa_nil)) (blkOk_by (own := [("tick", 2)]) (N := N_whole) (sc := defScope s_whole) (by decide +kernel)) (fun _ _ _ _ _ => (pg_name (i := 2) sc_whole.nd rfl (Or.inl rfl))) (fun _ _ _ _ _ => pts_nil) (fun _ _ _ _ _ => (pe_listRg rfl (by rfl) T.b_list (prg_1 (by rfl) T.b_range (pv 0)))))))
theorem rd_possible (T : Txt K mg C) {vs : List V} {H : Hp} {Q : VK} {E : XK} (h : sp_possible K C vs H Q E) : t_possible K C { nx := fun _ H' => Q .non H', rt := Q } (start N_possible vs) H := mSp_rd (fun ⟨r, p⟩ us G hv hk => bd_possible T r p hv hk) h
theorem ok_possible (T : Txt K mg C) {f : Addr} {fd : FuncData} (F : Fun K "possible" "possible" s_possible f fd) (D_whole : Def P w K mg base 1 "whole" ["size", "now"] (sp_whole K C)) (D_sensors_of : Def P w K mg base 1 "sensors_of" ["room", "prop"] (sp_sensors_of K C)) (D_widened : Def P w K mg base 5 "widened" ["parts", "sensor", "size", "now", "most"] (sp_widened K C)) (D_exists : Def P w K mg base 3 "exists" ["moves", "allowed"] (sp_exists K C)) : FnOk P w K mg base CX0 6 f fd ["room", "prop"] (sp_possible K C) := by
  refine F.ok sc_possible (fun _ _ _ _ h => len_possible h) (fun cdv A outer s H vs Q E hr h => ⟨t_possible K C, ?_, rd_possible T h⟩)
  exact (pss_cons (ps_set (i := 2) sc_possible.nd rfl (Or.inl rfl) (pe_fld (pe_ix ix_list (pe_fld (pv 0) rfl) (pv 1) (fun _ _ => rfl)) rfl))
    (pss_cons (ps_set (i := 3) sc_possible.nd rfl (Or.inl rfl) (pe_lst (pa_cons (pe_tup (pa_cons (pe_lst pa_nil) (pa_cons (pc D_whole (hr.mono (by decide)) (by rfl) (pa_cons (pv 2) (pa_cons (pe_fld (pv 0) rfl) pa_nil))) pa_nil))) pa_nil)))
    (pss_cons (ps_for PassesOwn.never rfl (pi_list (pc D_sensors_of (hr.mono (by decide)) (by rfl) (pa_cons (pv 0) (pa_cons (pv 1) pa_nil)))) (pg_name (i := 4) sc_possible.nd rfl (Or.inl rfl)) (pss_one (ps_set (i := 3) sc_possible.nd rfl (Or.inl rfl) (pc D_widened (hr.mono (by decide)) (by rfl) (pa_cons (pv 3) (pa_cons (pv 4) (pa_cons (pv 2) (pa_cons (pe_fld (pv 0) rfl) (pa_cons (pe_fld (pv 0) rfl) pa_nil)))))))))
    (pss_cons (ps_set (i := 5) sc_possible.nd rfl (Or.inr rfl) (pe_fld (pe_ix ix_list (pe_fld (pv 0) rfl) (pv 1) (fun _ _ => rfl)) rfl))
    (pss_one (ps_ret (pe_lc (own := [("part", 6)]) (g := (gName 6)) rfl sc_possible.nd (pi_list (pv 3)) (blkOk_by (own := [("part", 6)]) (N := N_possible) (sc := defScope s_possible) (by decide +kernel)) (fun _ _ _ _ _ => (pg_name (i := 6) sc_possible.nd rfl (Or.inl rfl))) (fun _ _ _ _ _ => (pts_one (pt_val (pc D_exists (hr.mono (by decide)) (by rfl) (pa_cons (pv 5) (pa_cons (pe_ix ix_tup (pv 6) pe_int (fun _ _ => rfl)) pa_nil)))))) (fun _ _ _ _ _ => (pv 6)))))))))
theorem rd_something (T : Txt K mg C) {vs : List V} {H : Hp} {Q : VK} {E : XK} (h : sp_something K C vs H Q E) : t_something K C { nx := fun _ H' => Q .non H', rt := Q } (start N_something vs) H := mSp_rd (fun ⟨few, most⟩ us G hv hk => bd_something T few most hv hk) h
theorem ok_something (T : Txt K mg C) {f : Addr} {fd : FuncData} (F : Fun K "something" "something" s_something f fd)  : FnOk P w K mg base CX0 1 f fd ["few", "most"] (sp_something K C) := by
  refine F.ok sc_something (fun _ _ _ _ h => len_something h) (fun cdv A outer s H vs Q E hr h => ⟨t_something K C, ?_, rd_something T h⟩)
  exact (pss_one (ps_ret (pe_and (pe_cmpR op_notIn_seq (pe_globI rfl T.g_NONE) (pv 0) (by rfl)) (pe_one (pe_cmpR op_le (pe_callB (cr_sum rfl) (by rfl) T.b_sum (by decide +kernel) (pa_cons (pv 0) pa_nil)) (pv 1) (nomark _))))))
theorem rd_left_of (T : Txt K mg C) {vs : List V} {H : Hp} {Q : VK} {E : XK} (h : sp_left_of K C vs H Q E) : t_left_of K C { nx := fun _ H' => Q .non H', rt := Q } (start N_left_of vs) H := mSp_rd (fun ⟨r, p⟩ us G hv hk => bd_left_of T r p hv hk) h
theorem ok_left_of (T : Txt K mg C) {f : Addr} {fd : FuncData} (F : Fun K "left_of" "left_of" s_left_of f fd) (D_all_left : Def P w K mg base 8 "all_left" ["room"] (sp_all_left K C)) : FnOk P w K mg base CX0 9 f fd ["room", "prop"] (sp_left_of K C) := by
  refine F.ok sc_left_of (fun _ _ _ _ h => len_left_of h) (fun cdv A outer s H vs Q E hr h => ⟨t_left_of K C, ?_, rd_left_of T h⟩)
  exact (pss_one (ps_ret (pe_ix ix_list (pc D_all_left (hr.mono (by decide)) (by rfl) (pa_cons (pv 0) pa_nil)) (pv 1) (fun _ _ => rfl))))
theorem ok_do_go (T : Txt K mg C) {f : Addr} {fd : FuncData} (F : Fun K "do_go" "do_go" s_do_go f fd) (D_Room_go : DefM P w K mg base 1 "go" C.R ["self"] (sp_Room_go K C)) : FnOk P w K mg base CX0 2 f fd ["room"] (sp_do_go K C) := by
  refine F.ok sc_do_go (fun _ _ _ _ h => len_do_go h) (fun cdv A outer s H vs Q E hr h => ⟨t_do_go K C, ?_, rd_do_go T h⟩)
  exact (pss_cons (ps_if (pt_val (pe_fld (pv 0) rfl)) (pss_one (ps_ret (pe_lst (pa_cons (pe_un un_neg pe_int) pa_nil)))) pss_nil)
    (pss_cons (ps_if (pt_cmpR op_eq (pe_callB call_len_seq (by rfl) T.b_len PySem.boot_len (pa_cons (pe_fld (pv 0) rfl) pa_nil)) pe_int (nomark _)) (pss_one (ps_ret (pe_lst (pa_cons (pe_un un_neg pe_int) pa_nil)))) pss_nil)
    (pss_cons (ps_expr (pc_meth0 T.clR D_Room_go (hr.mono (by decide)) (pv 0)))
    (pss_one (ps_ret (pe_lst (pa_cons pe_int pa_nil)))))))
theorem ok_do_mend (T : Txt K mg C) {f : Addr} {fd : FuncData} (F : Fun K "do_mend" "do_mend" s_do_mend f fd) (D_is_sensor : Def P w K mg base 1 "is_sensor" ["room", "number"] (sp_is_sensor K C)) (D_Room_mend : DefM P w K mg base 1 "mend" C.R ["self", "number"] (sp_Room_mend K C)) : FnOk P w K mg base CX0 2 f fd ["room", "sensor"] (sp_do_mend K C) := by
  refine F.ok sc_do_mend (fun _ _ _ _ h => len_do_mend h) (fun cdv A outer s H vs Q E hr h => ⟨t_do_mend K C, ?_, rd_do_mend T h⟩)
  exact (pss_cons (ps_if (pt_not (pt_val (pc D_is_sensor (hr.mono (by decide)) (by rfl) (pa_cons (pv 0) (pa_cons (pv 1) pa_nil))))) (pss_one (ps_ret (pe_lst (pa_cons (pe_un un_neg pe_int) pa_nil)))) pss_nil)
    (pss_cons (ps_if (pt_not (pt_val (pe_fld (pv 0) rfl))) (pss_one (ps_ret (pe_lst (pa_cons (pe_un un_neg pe_int) pa_nil)))) pss_nil)
    (pss_cons (ps_expr (pc_meth T.clR D_Room_mend (hr.mono (by decide)) (pv 0) (pa_cons (pv 1) pa_nil)))
    (pss_one (ps_ret (pe_lst (pa_cons pe_int pa_nil)))))))
theorem rd_say_fewest (T : Txt K mg C) {vs : List V} {H : Hp} {Q : VK} {E : XK} (h : sp_say_fewest K C vs H Q E) : t_say_fewest K C { nx := fun _ H' => Q .non H', rt := Q } (start N_say_fewest vs) H := mSp_rd (fun r us G hv hk => bd_say_fewest T r hv hk) h
theorem ok_say_fewest (T : Txt K mg C) {f : Addr} {fd : FuncData} (F : Fun K "say_fewest" "say_fewest" s_say_fewest f fd) (D_fewest_each : Def P w K mg base 3 "fewest_each" ["table"] (sp_fewest_each K C)) (D_all_possible : Def P w K mg base 7 "all_possible" ["room"] (sp_all_possible K C)) (D_something : Def P w K mg base 1 "something" ["few", "most"] (sp_something K C)) : FnOk P w K mg base CX0 8 f fd ["room"] (sp_say_fewest K C) := by
  refine F.ok sc_say_fewest (fun _ _ _ _ h => len_say_fewest h) (fun cdv A outer s H vs Q E hr h => ⟨t_say_fewest K C, ?_, rd_say_fewest T h⟩)
  exact (pss_cons (ps_if (pt_not (pt_val (pe_fld (pv 0) rfl))) (pss_one (ps_ret (pe_lst (pa_cons (pe_un un_neg pe_int) pa_nil)))) pss_nil)
    (pss_cons (ps_set (i := 1) sc_say_fewest.nd rfl (Or.inl rfl) (pc D_fewest_each (hr.mono (by decide)) (by rfl) (pa_cons (pc D_all_possible (hr.mono (by decide)) (by rfl) (pa_cons (pv 0) pa_nil)) pa_nil)))
    (pss_cons (ps_if (pt_not (pt_val (pc D_something (hr.mono (by decide)) (by rfl) (pa_cons (pv 1) (pa_cons (pe_fld (pv 0) rfl) pa_nil))))) (pss_one (ps_ret (pe_lst (pa_cons (pe_un un_neg pe_int) pa_nil)))) pss_nil)
    (pss_one (ps_ret (pe_op op_cat (pe_lst (pa_cons pe_int (pa_cons (pe_callB (cr_sum rfl) (by rfl) T.b_sum (by decide +kernel) (pa_cons (pv 1) pa_nil)) pa_nil))) (pv 1)))))))
theorem rd_say_vote (T : Txt K mg C) {vs : List V} {H : Hp} {Q : VK} {E : XK} (h : sp_say_vote K C vs H Q E) : t_say_vote K C { nx := fun _ H' => Q .non H', rt := Q } (start N_say_vote vs) H := mSp_rd (fun ⟨r, p⟩ us G hv hk => bd_say_vote T r p hv hk) h
theorem ok_say_vote (T : Txt K mg C) {f : Addr} {fd : FuncData} (F : Fun K "say_vote" "say_vote" s_say_vote f fd) (D_is_prop : Def P w K mg base 1 "is_prop" ["room", "prop"] (sp_is_prop K C)) (D_sensors_of : Def P w K mg base 1 "sensors_of" ["room", "prop"] (sp_sensors_of K C)) : FnOk P w K mg base CX0 2 f fd ["room", "prop"] (sp_say_vote K C) := by
  refine F.ok sc_say_vote (fun _ _ _ _ h => len_say_vote h) (fun cdv A outer s H vs Q E hr h => ⟨t_say_vote K C, ?_, rd_say_vote T h⟩)
  exact (pss_cons (ps_if (pt_not (pt_val (pc D_is_prop (hr.mono (by decide)) (by rfl) (pa_cons (pv 0) (pa_cons (pv 1) pa_nil))))) (pss_one (ps_ret (pe_lst (pa_cons (pe_un un_neg pe_int) pa_nil)))) pss_nil)
    (pss_cons (ps_if (pt_not (pt_val (pe_fld (pv 0) rfl))) (pss_one (ps_ret (pe_lst (pa_cons (pe_un un_neg pe_int) pa_nil)))) pss_nil)
    (pss_cons (ps_setLc (i := 2) (own := [("sensor", 5)]) (g := (gName 5)) rfl sc_say_vote.nd rfl rfl (sw_true rfl rfl rfl (by decide +kernel)) (pi_list (pc D_sensors_of (hr.mono (by decide)) (by rfl) (pa_cons (pv 0) (pa_cons (pv 1) pa_nil)))) (blkOk_by (own := [("sensor", 5)]) (N := N_say_vote) (sc := defScope s_say_vote) (by decide +kernel)) (fun _ _ _ _ _ => (pg_name (i := 5) sc_say_vote.nd rfl (Or.inl rfl))) (fun _ _ _ _ _ => pts_nil) (fun _ _ _ _ _ => (pe_ix ix_list (pe_fld (pv 5) rfl) (pe_fld (pv 0) rfl) (fun _ _ => rfl))))
    (pss_cons (ps_set (i := 3) sc_say_vote.nd rfl (Or.inl rfl) (pe_callB cr_sorted (by rfl) T.b_sorted (by decide +kernel) (pa_cons (pe_lc (own := [("reading", 6)]) (g := (gName 6)) rfl sc_say_vote.nd (pi_list (pv 2)) (blkOk_by (own := [("reading", 6)]) (N := N_say_vote) (sc := defScope s_say_vote) (by decide +kernel)) (fun _ _ _ _ _ => (pg_name (i := 6) sc_say_vote.nd rfl (Or.inl rfl))) (fun _ _ _ _ _ => (pts_one (pt_cmpR op_ge (pv 6) pe_int (nomark _)))) (fun _ _ _ _ _ => (pv 6))) pa_nil)))
    (pss_cons (ps_if (pt_cmpR op_eq (pe_callB call_len_seq (by rfl) T.b_len PySem.boot_len (pa_cons (pv 3) pa_nil)) pe_int (nomark _)) (pss_one (ps_ret (pe_lst (pa_cons (pe_un un_neg pe_int) pa_nil)))) pss_nil)
    (pss_cons (ps_set (i := 4) sc_say_vote.nd rfl (Or.inl rfl) (pe_ix ix_list (pv 3) (pe_op op_fdiv (pe_op op_sub (pe_callB call_len_seq (by rfl) T.b_len PySem.boot_len (pa_cons (pv 3) pa_nil)) pe_int) pe_int) (fun _ _ => rfl)))
    (pss_one (ps_ret (pe_lst (pa_cons pe_int (pa_cons (pv 4) (pa_cons (pe_callB call_len_seq (by rfl) T.b_len PySem.boot_len (pa_cons (pv 3) pa_nil)) (pa_cons (pe_bm PySem.F.plainAttrs_list PySem.F.slot_list_count PySem.F.type_list_count mt_lcount (pv 3) (pa_cons (pv 4) pa_nil)) pa_nil)))))))))))))
theorem rd_stuck_reads (T : Txt K mg C) {vs : List V} {H : Hp} {Q : VK} {E : XK} (h : sp_stuck_reads K C vs H Q E) : t_stuck_reads K C { nx := fun _ H' => Q .non H', rt := Q } (start N_stuck_reads vs) H := mSp_rd (fun ⟨x, t⟩ us G hv hk => bd_stuck_reads T x t hv hk) h
theorem ok_stuck_reads (T : Txt K mg C) {f : Addr} {fd : FuncData} (F : Fun K "stuck_reads" "stuck_reads" s_stuck_reads f fd) (D_readings_from : Def P w K mg base 1 "readings_from" ["sensor", "tick"] (sp_readings_from K C)) : FnOk P w K mg base CX0 2 f fd ["sensor", "tick"] (sp_stuck_reads K C) := by
  refine F.ok sc_stuck_reads (fun _ _ _ _ h => len_stuck_reads h) (fun cdv A outer s H vs Q E hr h => ⟨t_stuck_reads K C, ?_, rd_stuck_reads T h⟩)
  exact (pss_cons (ps_set (i := 2) sc_stuck_reads.nd rfl (Or.inl rfl) (pc D_readings_from (hr.mono (by decide)) (by rfl) (pa_cons (pv 0) (pa_cons (pv 1) pa_nil))))
    (pss_cons (ps_if (pt_cmpR op_eq (pe_callB call_len_seq (by rfl) T.b_len PySem.boot_len (pa_cons (pv 2) pa_nil)) pe_int (nomark _)) (pss_one (ps_ret (pe_lst (pa_cons (pe_tup (pa_cons pe_int (pa_cons (pe_globI rfl T.g_GREATEST) pa_nil))) pa_nil)))) pss_nil)
    (pss_one (ps_ret (pe_lst (pa_cons (pe_tup (pa_cons (pe_ix ix_list (pv 2) pe_int (fun _ _ => rfl)) (pa_cons (pe_ix ix_list (pv 2) pe_int (fun _ _ => rfl)) pa_nil))) pa_nil))))))
theorem rd_alike (T : Txt K mg C) {vs : List V} {H : Hp} {Q : VK} {E : XK} (h : sp_alike K C vs H Q E) : t_alike K C { nx := fun _ H' => Q .non H', rt := Q } (start N_alike vs) H := mSp_rd (fun ⟨a, b⟩ us G hv hk => bd_alike T a b hv hk) h
theorem ok_alike (T : Txt K mg C) {f : Addr} {fd : FuncData} (F : Fun K "alike" "alike" s_alike f fd) (D_share : Def P w K mg base 1 "share" ["one", "two"] (sp_share K C)) : FnOk P w K mg base CX0 2 f fd ["one", "two"] (sp_alike K C) := by
  refine F.ok sc_alike (fun _ _ _ _ h => len_alike h) (fun cdv A outer s H vs Q E hr h => ⟨t_alike K C, ?_, rd_alike T h⟩)
  exact (pss_cons (ps_for PassesOwn.never rfl (pi_zip (by rfl) T.b_zip (pa_cons (pv 0) (pa_cons (pv 1) pa_nil))) (pg_tup rfl (pgs_cons (pg_name (i := 2) sc_alike.nd rfl (Or.inl rfl)) (pgs_cons (pg_name (i := 3) sc_alike.nd rfl (Or.inl rfl)) pgs_nil))) (pss_one (ps_if (pt_not (pt_val (pc D_share (hr.mono (by decide)) (by rfl) (pa_cons (pv 2) (pa_cons (pv 3) pa_nil))))) (pss_one (ps_ret pe_bl)) pss_nil)))
    (pss_one (ps_ret pe_bl)))
theorem rd_longer_rows (T : Txt K mg C) {vs : List V} {H : Hp} {Q : VK} {E : XK} (h : sp_longer_rows K C vs H Q E) : t_longer_rows K C { nx := fun _ H' => Q .non H', rt := Q } (start N_longer_rows vs) H := mSp_rd (fun ⟨rows, size⟩ us G hv hk => bd_longer_rows T rows size hv hk) h
theorem ok_longer_rows (T : Txt K mg C) {f : Addr} {fd : FuncData} (F : Fun K "longer_rows" "longer_rows" s_longer_rows f fd)  : FnOk P w K mg base CX0 1 f fd ["rows", "size"] (sp_longer_rows K C) := by
  refine F.ok sc_longer_rows (fun _ _ _ _ h => len_longer_rows h) (fun cdv A outer s H vs Q E hr h => ⟨t_longer_rows K C, ?_, rd_longer_rows T h⟩)
  exact (pss_cons (ps_set (i := 2) sc_longer_rows.nd rfl (Or.inl rfl) (pe_lst pa_nil))
    (pss_cons (ps_for PassesOwn.never rfl (pi_list (pv 0)) (pg_name (i := 3) sc_longer_rows.nd rfl (Or.inl rfl)) (pss_one (ps_for PassesOwn.never rfl (pi_range1 (by rfl) T.b_range (pa_cons (pv 1) pa_nil)) (pg_name (i := 4) sc_longer_rows.nd rfl (Or.inl rfl)) (pss_one (ps_expr (pe_bm PySem.F.plainAttrs_list PySem.F.slot_list_append PySem.F.type_list_append mt_append (pv 2) (pa_cons (pe_op op_cat (pv 3) (pe_lst (pa_cons (pv 4) pa_nil))) pa_nil)))))))
    (pss_one (ps_ret (pv 2)))))
theorem rd_place_in_five (T : Txt K mg C) {vs : List V} {H : Hp} {Q : VK} {E : XK} (h : sp_place_in_five K C vs H Q E) : t_place_in_five K C { nx := fun _ H' => Q .non H', rt := Q } (start N_place_in_five vs) H := mSp_rd (fun f us G hv hk => bd_place_in_five T f hv hk) h
theorem ok_place_in_five (T : Txt K mg C) {f : Addr} {fd : FuncData} (F : Fun K "place_in_five" "place_in_five" s_place_in_five f fd)  : FnOk P w K mg base CX0 1 f fd ["fault"] (sp_place_in_five K C) := by
  refine F.ok sc_place_in_five (fun _ _ _ _ h => len_place_in_five h) (fun cdv A outer s H vs Q E hr h => ⟨t_place_in_five K C, ?_, rd_place_in_five T h⟩)
  exact (pss_cons (ps_if (pt_cmpR op_eq (pv 0) pe_int (nomark _)) (pss_one (ps_ret pe_int)) pss_nil)
    (pss_cons (ps_if (pt_cmpR op_ge (pv 0) (pe_globI rfl T.g_STUCK) (nomark _)) (pss_one (ps_ret pe_int)) pss_nil)
    (pss_one (ps_ret (pe_op op_add (pv 0) pe_int)))))
theorem rd_never_fine (T : Txt K mg C) {vs : List V} {H : Hp} {Q : VK} {E : XK} (h : sp_never_fine K C vs H Q E) : t_never_fine K C { nx := fun _ H' => Q .non H', rt := Q } (start N_never_fine vs) H := mSp_rd (fun ⟨r, t, i⟩ us G hv hk => bd_never_fine T r t i hv hk) h
theorem ok_never_fine (T : Txt K mg C) {f : Addr} {fd : FuncData} (F : Fun K "never_fine" "never_fine" s_never_fine f fd) (D_place_of : Def P w K mg base 1 "place_of" ["room", "number"] (sp_place_of K C)) : FnOk P w K mg base CX0 2 f fd ["room", "table", "number"] (sp_never_fine K C) := by
  refine F.ok sc_never_fine (fun _ _ _ _ h => len_never_fine h) (fun cdv A outer s H vs Q E hr h => ⟨t_never_fine K C, ?_, rd_never_fine T h⟩)
  exact (pss_cons (ps_set (i := 3) sc_never_fine.nd rfl (Or.inl rfl) (pc D_place_of (hr.mono (by decide)) (by rfl) (pa_cons (pv 0) (pa_cons (pv 2) pa_nil))))
    (pss_cons (ps_for PassesOwn.never rfl (pi_list (pe_ix ix_list (pv 1) (pe_fld (pe_ix ix_list (pe_fld (pv 0) rfl) (pv 2) (fun _ _ => rfl)) rfl) (fun _ _ => rfl))) (pg_tup rfl (pgs_cons (pg_name (i := 4) sc_never_fine.nd rfl (Or.inl rfl)) (pgs_cons (pg_name (i := 5) sc_never_fine.nd rfl (Or.inl rfl)) pgs_nil))) (pss_one (ps_if (pt_cmpR op_eq (pe_ix ix_list (pv 4) (pv 3) (fun _ _ => rfl)) pe_int (nomark _)) (pss_one (ps_ret pe_bl)) pss_nil)))
    (pss_one (ps_ret pe_bl))))
theorem rd_say_settles (T : Txt K mg C) {vs : List V} {H : Hp} {Q : VK} {E : XK} (h : sp_say_settles K C vs H Q E) : t_say_settles K C { nx := fun _ H' => Q .non H', rt := Q } (start N_say_settles vs) H := mSp_rd (fun ⟨r, i, told⟩ us G hv hk => bd_say_settles T r i told hv hk) h
theorem ok_say_settles (T : Txt K mg C) {f : Addr} {fd : FuncData} (F : Fun K "say_settles" "say_settles" s_say_settles f fd) (D_is_sensor : Def P w K mg base 1 "is_sensor" ["room", "number"] (sp_is_sensor K C)) (D_told_are_right : Def P w K mg base 1 "told_are_right" ["room", "number", "told"] (sp_told_are_right K C)) (D_settles_now : Def P w K mg base 11 "settles_now" ["room", "number", "told"] (sp_settles_now K C)) : FnOk P w K mg base CX0 12 f fd ["room", "number", "told"] (sp_say_settles K C) := by
  refine F.ok sc_say_settles (fun _ _ _ _ h => len_say_settles h) (fun cdv A outer s H vs Q E hr h => ⟨t_say_settles K C, ?_, rd_say_settles T h⟩)
  exact (pss_cons (ps_if (PW.pt (pw_or (pt_not (pt_val (pc D_is_sensor (hr.mono (by decide)) (by rfl) (pa_cons (pv 0) (pa_cons (pv 1) pa_nil))))) (pw_or1 (pt_not (pt_val (pc D_told_are_right (hr.mono (by decide)) (by rfl) (pa_cons (pv 0) (pa_cons (pv 1) (pa_cons (pv 2) pa_nil))))))))) (pss_one (ps_ret (pe_lst (pa_cons (pe_un un_neg pe_int) pa_nil)))) pss_nil)
    (pss_cons (ps_if (pt_not (pt_val (pe_fld (pv 0) rfl))) (pss_one (ps_ret (pe_lst (pa_cons (pe_un un_neg pe_int) pa_nil)))) pss_nil)
    (pss_one (ps_ret (pe_lst (pa_cons pe_int (pa_cons (pe_ifExp (pt_val (pc D_settles_now (hr.mono (by decide)) (by rfl) (pa_cons (pv 0) (pa_cons (pv 1) (pa_cons (pv 2) pa_nil))))) pe_int pe_int) pa_nil)))))))
theorem ok_ask_sensor (T : Txt K mg C) {f : Addr} {fd : FuncData} (F : Fun K "ask_sensor" "ask_sensor" s_ask_sensor f fd) (D_say_blame : Def P w K mg base 10 "say_blame" ["room", "number"] (sp_say_blame K C)) (D_say_since : Def P w K mg base 10 "say_since" ["room", "number"] (sp_say_since K C)) (D_say_sure : Def P w K mg base 9 "say_sure" ["room"] (sp_say_sure K C)) (D_say_settle : Def P w K mg base 12 "say_settle" ["room", "number", "many"] (sp_say_settle K C)) (D_say_settles : Def P w K mg base 12 "say_settles" ["room", "number", "told"] (sp_say_settles K C)) (D_say_reads : Def P w K mg base 2 "say_reads" ["room", "number"] (sp_say_reads K C)) : FnOk P w K mg base CX0 13 f fd ["room", "call", "numbers", "rows"] (sp_ask_sensor K C) := by
  refine F.ok sc_ask_sensor (fun _ _ _ _ h => len_ask_sensor h) (fun cdv A outer s H vs Q E hr h => ⟨t_ask_sensor K C, ?_, rd_ask_sensor T h⟩)
  exact (pss_cons (ps_if (pt_cmpR op_eq (pv 1) pe_int (nomark _)) (pss_one (ps_ret (pc D_say_blame (hr.mono (by decide)) (by rfl) (pa_cons (pv 0) (pa_cons (pe_ix ix_list (pv 2) pe_int (fun _ _ => rfl)) pa_nil))))) pss_nil)
    (pss_cons (ps_if (pt_cmpR op_eq (pv 1) pe_int (nomark _)) (pss_one (ps_ret (pc D_say_since (hr.mono (by decide)) (by rfl) (pa_cons (pv 0) (pa_cons (pe_ix ix_list (pv 2) pe_int (fun _ _ => rfl)) pa_nil))))) pss_nil)
    (pss_cons (ps_if (pt_cmpR op_eq (pv 1) pe_int (nomark _)) (pss_one (ps_ret (pc D_say_sure (hr.mono (by decide)) (by rfl) (pa_cons (pv 0) pa_nil)))) pss_nil)
    (pss_cons (ps_if (pt_cmpR op_eq (pv 1) pe_int (nomark _)) (pss_one (ps_ret (pc D_say_settle (hr.mono (by decide)) (by rfl) (pa_cons (pv 0) (pa_cons (pe_ix ix_list (pv 2) pe_int (fun _ _ => rfl)) (pa_cons (pe_ix ix_list (pv 2) pe_int (fun _ _ => rfl)) pa_nil)))))) pss_nil)
    (pss_cons (ps_if (pt_cmpR op_eq (pv 1) pe_int (nomark _)) (pss_one (ps_ret (pc D_say_settles (hr.mono (by decide)) (by rfl) (pa_cons (pv 0) (pa_cons (pe_ix ix_list (pv 2) pe_int (fun _ _ => rfl)) (pa_cons (pe_ix ix_list (pv 3) pe_int (fun _ _ => rfl)) pa_nil)))))) pss_nil)
    (pss_one (ps_ret (pc D_say_reads (hr.mono (by decide)) (by rfl) (pa_cons (pv 0) (pa_cons (pe_ix ix_list (pv 2) pe_int (fun _ _ => rfl)) pa_nil))))))))))
end
end Sk
/-! part Dv1 -/
namespace Sk
open PySem PySem.Spec PyProof.Rows L2 Evl
theorem sc_Sensor_init : FnScope N_Sensor_init ["self", "prop", "error"] (defScope s_Sensor_init) := ⟨rfl, rfl, rfl, by decide +kernel, rfl, by decide +kernel, by decide +kernel⟩
theorem sc_Room_add_sensor : FnScope N_Room_add_sensor ["self", "prop", "error"] (defScope s_Room_add_sensor) := ⟨rfl, rfl, rfl, by decide +kernel, rfl, by decide +kernel, by decide +kernel⟩
theorem sc_Room_allow : FnScope N_Room_allow ["self", "most"] (defScope s_Room_allow) := ⟨rfl, rfl, rfl, by decide +kernel, rfl, by decide +kernel, by decide +kernel⟩
theorem sc_place_of : FnScope N_place_of ["room", "number"] (defScope s_place_of) := ⟨rfl, rfl, rfl, by decide +kernel, rfl, by decide +kernel, by decide +kernel⟩
theorem sc_forward : FnScope N_forward ["moves", "allowed"] (defScope s_forward) := ⟨rfl, rfl, rfl, by decide +kernel, rfl, by decide +kernel, by decide +kernel⟩
theorem sc_is_course : FnScope N_is_course ["moves", "size", "course"] (defScope s_is_course) := ⟨rfl, rfl, rfl, by decide +kernel, rfl, by decide +kernel, by decide +kernel⟩
theorem sc_can_stick : FnScope N_can_stick ["sensor", "tick"] (defScope s_can_stick) := ⟨rfl, rfl, rfl, by decide +kernel, rfl, by decide +kernel, by decide +kernel⟩
theorem sc_reading_about : FnScope N_reading_about ["sensor", "fault", "tick", "now"] (defScope s_reading_about) := ⟨rfl, rfl, rfl, by decide +kernel, rfl, by decide +kernel, by decide +kernel⟩
theorem sc_overlap : FnScope N_overlap ["one", "two"] (defScope s_overlap) := ⟨rfl, rfl, rfl, by decide +kernel, rfl, by decide +kernel, by decide +kernel⟩
theorem sc_all_possible : FnScope N_all_possible ["room"] (defScope s_all_possible) := ⟨rfl, rfl, rfl, by decide +kernel, rfl, by decide +kernel, by decide +kernel⟩
theorem sc_can_be : FnScope N_can_be ["room"] (defScope s_can_be) := ⟨rfl, rfl, rfl, by decide +kernel, rfl, by decide +kernel, by decide +kernel⟩
theorem sc_do_begin : FnScope N_do_begin ["room", "most"] (defScope s_do_begin) := ⟨rfl, rfl, rfl, by decide +kernel, rfl, by decide +kernel, by decide +kernel⟩
theorem sc_moves_are_right : FnScope N_moves_are_right ["room", "moves"] (defScope s_moves_are_right) := ⟨rfl, rfl, rfl, by decide +kernel, rfl, by decide +kernel, by decide +kernel⟩
theorem sc_do_allow : FnScope N_do_allow ["room", "most"] (defScope s_do_allow) := ⟨rfl, rfl, rfl, by decide +kernel, rfl, by decide +kernel, by decide +kernel⟩
theorem sc_say_explain : FnScope N_say_explain ["room", "prop"] (defScope s_say_explain) := ⟨rfl, rfl, rfl, by decide +kernel, rfl, by decide +kernel, by decide +kernel⟩
theorem sc_say_state : FnScope N_say_state ["room"] (defScope s_say_state) := ⟨rfl, rfl, rfl, by decide +kernel, rfl, by decide +kernel, by decide +kernel⟩
theorem sc_may_read : FnScope N_may_read ["sensor", "fault", "been", "told", "turn", "now"] (defScope s_may_read) := ⟨rfl, rfl, rfl, by decide +kernel, rfl, by decide +kernel, by decide +kernel⟩
theorem sc_none_alike : FnScope N_none_alike ["ones", "twos"] (defScope s_none_alike) := ⟨rfl, rfl, rfl, by decide +kernel, rfl, by decide +kernel, by decide +kernel⟩
theorem sc_candidates : FnScope N_candidates ["size", "many"] (defScope s_candidates) := ⟨rfl, rfl, rfl, by decide +kernel, rfl, by decide +kernel, by decide +kernel⟩
theorem sc_say_blame : FnScope N_say_blame ["room", "number"] (defScope s_say_blame) := ⟨rfl, rfl, rfl, by decide +kernel, rfl, by decide +kernel, by decide +kernel⟩
theorem sc_say_sure : FnScope N_say_sure ["room"] (defScope s_say_sure) := ⟨rfl, rfl, rfl, by decide +kernel, rfl, by decide +kernel, by decide +kernel⟩
theorem sc_say_reads : FnScope N_say_reads ["room", "number"] (defScope s_say_reads) := ⟨rfl, rfl, rfl, by decide +kernel, rfl, by decide +kernel, by decide +kernel⟩
theorem sc_answer_of : FnScope N_answer_of ["room", "call", "numbers", "rows"] (defScope s_answer_of) := ⟨rfl, rfl, rfl, by decide +kernel, rfl, by decide +kernel, by decide +kernel⟩
section
variable {P : Program} {w : World} {K : PySem.W.Frag} {mg : Str → Option Value} {base : Heap} {C : Cs}
theorem ok_Sensor_init (T : Txt K mg C) {f : Addr} {fd : FuncData} (F : Fun K "__init__" "Sensor.__init__" s_Sensor_init f fd)  : FnOk P w K mg base CX0 1 f fd ["self", "prop", "error"] (sp_Sensor_init K C) := by
  refine F.ok sc_Sensor_init (fun _ _ _ _ h => len_Sensor_init h) (fun cdv A outer s H vs Q E hr h => ⟨t_Sensor_init K C, ?_, rd_Sensor_init T h⟩)
  exact (pss_cons (ps_fld (pv 0) (pv 1) rfl)
    (pss_cons (ps_fld (pv 0) (pv 2) rfl)
    (pss_cons (ps_fld (pv 0) pe_int rfl)
    (pss_one (ps_fld (pv 0) (pe_lst (pa_cons (pe_globI rfl T.g_NOTHING_room) pa_nil)) rfl)))))
theorem ok_Room_add_sensor (T : Txt K mg C) {f : Addr} {fd : FuncData} (F : Fun K "add_sensor" "Room.add_sensor" s_Room_add_sensor f fd) (D_Sensor_init : DefC P w K mg base 1 "Sensor" C.S ["self", "prop", "error"] (sp_Sensor_init K C)) : FnOk P w K mg base CX0 3 f fd ["self", "prop", "error"] (sp_Room_add_sensor K C) := by
  refine F.ok sc_Room_add_sensor (fun _ _ _ _ h => len_Room_add_sensor h) (fun cdv A outer s H vs Q E hr h => ⟨t_Room_add_sensor K C, ?_, rd_Room_add_sensor T h⟩)
  exact (pss_one (ps_expr (pe_bm PySem.F.plainAttrs_list PySem.F.slot_list_append PySem.F.type_list_append mt_append (pe_fld (pv 0) rfl) (pa_cons (pc_make D_Sensor_init (hr.mono (by decide)) rfl (pa_cons (pv 1) (pa_cons (pv 2) pa_nil))) pa_nil))))
theorem ok_Room_allow (T : Txt K mg C) {f : Addr} {fd : FuncData} (F : Fun K "allow" "Room.allow" s_Room_allow f fd)  : FnOk P w K mg base CX0 1 f fd ["self", "most"] (sp_Room_allow K C) := by
  refine F.ok sc_Room_allow (fun _ _ _ _ h => len_Room_allow h) (fun cdv A outer s H vs Q E hr h => ⟨t_Room_allow K C, ?_, rd_Room_allow T h⟩)
  exact (pss_one (ps_fld (pv 0) (pv 1) rfl))
theorem rd_place_of (T : Txt K mg C) {vs : List V} {H : Hp} {Q : VK} {E : XK} (h : sp_place_of K C vs H Q E) : t_place_of K C { nx := fun _ H' => Q .non H', rt := Q } (start N_place_of vs) H := mSp_rd (fun ⟨r, i⟩ us G hv hk => bd_place_of T r i hv hk) h
theorem ok_place_of (T : Txt K mg C) {f : Addr} {fd : FuncData} (F : Fun K "place_of" "place_of" s_place_of f fd)  : FnOk P w K mg base CX0 1 f fd ["room", "number"] (sp_place_of K C) := by
  refine F.ok sc_place_of (fun _ _ _ _ h => len_place_of h) (fun cdv A outer s H vs Q E hr h => ⟨t_place_of K C, ?_, rd_place_of T h⟩)
  exact (pss_cons (ps_set (i := 2) sc_place_of.nd rfl (Or.inr rfl) (pe_fld (pe_ix ix_list (pe_fld (pv 0) rfl) (pv 1) (fun _ _ => rfl)) rfl))
    (pss_one (ps_ret (pe_callB call_len_seq (by rfl) T.b_len PySem.boot_len (pa_cons (pe_lc (own := [("k", 3)]) (g := (gName 3)) rfl sc_place_of.nd (pi_range1 (by rfl) T.b_range (pa_cons (pv 1) pa_nil)) (blkOk_by (own := [("k", 3)]) (N := N_place_of) (sc := defScope s_place_of) (by decide +kernel)) (fun _ _ _ _ _ => (pg_name (i := 3) sc_place_of.nd rfl (Or.inl rfl))) (fun _ _ _ _ _ => (pts_one (pt_cmpR op_eq (pe_fld (pe_ix ix_list (pe_fld (pv 0) rfl) (pv 3) (fun _ _ => rfl)) rfl) (pv 2) (nomark _)))) (fun _ _ _ _ _ => (pv 3))) pa_nil)))))
theorem rd_forward (T : Txt K mg C) {vs : List V} {H : Hp} {Q : VK} {E : XK} (h : sp_forward K C vs H Q E) : t_forward K C { nx := fun _ H' => Q .non H', rt := Q } (start N_forward vs) H := mSp_rd (fun ⟨ms, al⟩ us G hv hk => bd_forward T ms al hv hk) h
theorem ok_forward (T : Txt K mg C) {f : Addr} {fd : FuncData} (F : Fun K "forward" "forward" s_forward f fd) (D_comes : Def P w K mg base 1 "comes" ["befores", "move", "position"] (sp_comes K C)) : FnOk P w K mg base CX0 2 f fd ["moves", "allowed"] (sp_forward K C) := by
  refine F.ok sc_forward (fun _ _ _ _ h => len_forward h) (fun cdv A outer s H vs Q E hr h => ⟨t_forward K C, ?_, rd_forward T h⟩)
  exact (pss_cons (ps_set (i := 2) sc_forward.nd rfl (Or.inl rfl) (pe_lst (pa_cons (pe_callTy call_list_of (by rfl) T.b_list (by decide +kernel) (pa_cons (pe_ix ix_list (pv 1) pe_int (fun _ _ => rfl)) pa_nil)) pa_nil)))
    (pss_cons (ps_for PassesOwn.never rfl (pi_range2 (by rfl) T.b_range (pa_cons pe_int (pa_cons (pe_callB call_len_seq (by rfl) T.b_len PySem.boot_len (pa_cons (pv 0) pa_nil)) pa_nil))) (pg_name (i := 3) sc_forward.nd rfl (Or.inr rfl)) (pss_cons (ps_set (i := 4) sc_forward.nd rfl (Or.inr rfl) (pe_ix ix_list (pv 2) (pe_op op_sub (pv 3) pe_int) (fun _ _ => rfl)))
    (pss_one (ps_expr (pe_bm PySem.F.plainAttrs_list PySem.F.slot_list_append PySem.F.type_list_append mt_append (pv 2) (pa_cons (pe_lc (own := [("position", 5)]) (g := (gName 5)) rfl sc_forward.nd (pi_list (pe_ix ix_list (pv 1) (pv 3) (fun _ _ => rfl))) (blkOk_by (own := [("position", 5)]) (N := N_forward) (sc := defScope s_forward) (by decide +kernel)) (fun _ _ _ _ _ => (pg_name (i := 5) sc_forward.nd rfl (Or.inl rfl))) (fun _ _ _ _ _ => (pts_one (pt_val (pc D_comes (hr.mono (by decide)) (by rfl) (pa_cons (pv 4) (pa_cons (pe_ix ix_list (pv 0) (pv 3) (fun _ _ => rfl)) (pa_cons (pv 5) pa_nil))))))) (fun _ _ _ _ _ => (pv 5))) pa_nil))))))
    (pss_one (ps_ret (pv 2)))))
theorem rd_is_course (T : Txt K mg C) {vs : List V} {H : Hp} {Q : VK} {E : XK} (h : sp_is_course K C vs H Q E) : t_is_course K C { nx := fun _ H' => Q .non H', rt := Q } (start N_is_course vs) H := mSp_rd (fun ⟨ms, size, c⟩ us G hv hk => bd_is_course T ms size c hv hk) h
theorem ok_is_course (T : Txt K mg C) {f : Addr} {fd : FuncData} (F : Fun K "is_course" "is_course" s_is_course f fd) (D_goes : Def P w K mg base 1 "goes" ["move", "before", "after"] (sp_goes K C)) : FnOk P w K mg base CX0 2 f fd ["moves", "size", "course"] (sp_is_course K C) := by
  refine F.ok sc_is_course (fun _ _ _ _ h => len_is_course h) (fun cdv A outer s H vs Q E hr h => ⟨t_is_course K C, ?_, rd_is_course T h⟩)
  exact (pss_cons (ps_if (pt_cmpR op_ne (pe_callB call_len_seq (by rfl) T.b_len PySem.boot_len (pa_cons (pv 2) pa_nil)) (pe_callB call_len_seq (by rfl) T.b_len PySem.boot_len (pa_cons (pv 0) pa_nil)) (nomark _)) (pss_one (ps_ret pe_bl)) pss_nil)
    (pss_cons (ps_for PassesOwn.never rfl (pi_list (pv 2)) (pg_name (i := 3) sc_is_course.nd rfl (Or.inl rfl)) (pss_one (ps_if (PW.pt (pw_or (pt_cmpR op_lt (pv 3) pe_int (nomark _)) (pw_or1 (pt_cmpR op_ge (pv 3) (pv 1) (nomark _))))) (pss_one (ps_ret pe_bl)) pss_nil)))
    (pss_cons (ps_for PassesOwn.never rfl (pi_range2 (by rfl) T.b_range (pa_cons pe_int (pa_cons (pe_callB call_len_seq (by rfl) T.b_len PySem.boot_len (pa_cons (pv 0) pa_nil)) pa_nil))) (pg_name (i := 4) sc_is_course.nd rfl (Or.inl rfl)) (pss_one (ps_if (pt_not (pt_val (pc D_goes (hr.mono (by decide)) (by rfl) (pa_cons (pe_ix ix_list (pv 0) (pv 4) (fun _ _ => rfl)) (pa_cons (pe_ix ix_list (pv 2) (pe_op op_sub (pv 4) pe_int) (fun _ _ => rfl)) (pa_cons (pe_ix ix_list (pv 2) (pv 4) (fun _ _ => rfl)) pa_nil)))))) (pss_one (ps_ret pe_bl)) pss_nil)))
    (pss_one (ps_ret pe_bl)))))
theorem rd_can_stick (T : Txt K mg C) {vs : List V} {H : Hp} {Q : VK} {E : XK} (h : sp_can_stick K C vs H Q E) : t_can_stick K C { nx := fun _ H' => Q .non H', rt := Q } (start N_can_stick vs) H := mSp_rd (fun ⟨x, t⟩ us G hv hk => bd_can_stick T x t hv hk) h
theorem ok_can_stick (T : Txt K mg C) {f : Addr} {fd : FuncData} (F : Fun K "can_stick" "can_stick" s_can_stick f fd) (D_readings_from : Def P w K mg base 1 "readings_from" ["sensor", "tick"] (sp_readings_from K C)) : FnOk P w K mg base CX0 2 f fd ["sensor", "tick"] (sp_can_stick K C) := by
  refine F.ok sc_can_stick (fun _ _ _ _ h => len_can_stick h) (fun cdv A outer s H vs Q E hr h => ⟨t_can_stick K C, ?_, rd_can_stick T h⟩)
  exact (pss_cons (ps_set (i := 2) sc_can_stick.nd rfl (Or.inl rfl) (pc D_readings_from (hr.mono (by decide)) (by rfl) (pa_cons (pv 0) (pa_cons (pv 1) pa_nil))))
    (pss_cons (ps_for PassesOwn.never rfl (pi_list (pv 2)) (pg_name (i := 3) sc_can_stick.nd rfl (Or.inl rfl)) (pss_one (ps_if (pt_cmpR op_ne (pv 3) (pe_ix ix_list (pv 2) pe_int (fun _ _ => rfl)) (nomark _)) (pss_one (ps_ret pe_bl)) pss_nil)))
    (pss_one (ps_ret pe_bl))))
theorem rd_reading_about (T : Txt K mg C) {vs : List V} {H : Hp} {Q : VK} {E : XK} (h : sp_reading_about K C vs H Q E) : t_reading_about K C { nx := fun _ H' => Q .non H', rt := Q } (start N_reading_about vs) H := mSp_rd (fun ⟨x, f, t, now⟩ us G hv hk => bd_reading_about T x f t now hv hk) h
theorem ok_reading_about (T : Txt K mg C) {f : Addr} {fd : FuncData} (F : Fun K "reading_about" "reading_about" s_reading_about f fd)  : FnOk P w K mg base CX0 1 f fd ["sensor", "fault", "tick", "now"] (sp_reading_about K C) := by
  refine F.ok sc_reading_about (fun _ _ _ _ h => len_reading_about h) (fun cdv A outer s H vs Q E hr h => ⟨t_reading_about K C, ?_, rd_reading_about T h⟩)
  exact (pss_cons (ps_if (pt_cmpR op_lt (pv 2) (pe_fld (pv 0) rfl) (nomark _)) (pss_one (ps_ret (pe_globI rfl T.g_NOTHING_sights))) pss_nil)
    (pss_cons (ps_if (pt_cmpR op_ge (pv 1) (pe_globI rfl T.g_STUCK) (nomark _)) (pss_one (ps_ret (pe_ifExp (pt_cmpR op_lt (pv 2) (pe_op op_sub (pv 1) (pe_globI rfl T.g_STUCK)) (nomark _)) (pe_ix ix_list (pe_fld (pv 0) rfl) (pv 2) (fun _ _ => rfl)) (pe_globI rfl T.g_NOTHING_sights)))) pss_nil)
    (pss_cons (ps_if (pt_cmpR op_gt (pe_op op_add (pv 2) (pv 1)) (pv 3) (nomark _)) (pss_one (ps_ret (pe_globI rfl T.g_NOTHING_sights))) pss_nil)
    (pss_one (ps_ret (pe_ix ix_list (pe_fld (pv 0) rfl) (pe_op op_add (pv 2) (pv 1)) (fun _ _ => rfl)))))))
theorem rd_overlap (T : Txt K mg C) {vs : List V} {H : Hp} {Q : VK} {E : XK} (h : sp_overlap K C vs H Q E) : t_overlap K C { nx := fun _ H' => Q .non H', rt := Q } (start N_overlap vs) H := mSp_rd (fun ⟨a, b⟩ us G hv hk => bd_overlap T a b hv hk) h
theorem ok_overlap (T : Txt K mg C) {f : Addr} {fd : FuncData} (F : Fun K "overlap" "overlap" s_overlap f fd)  : FnOk P w K mg base CX0 1 f fd ["one", "two"] (sp_overlap K C) := by
  refine F.ok sc_overlap (fun _ _ _ _ h => len_overlap h) (fun cdv A outer s H vs Q E hr h => ⟨t_overlap K C, ?_, rd_overlap T h⟩)
  exact (pss_cons (ps_set (i := 2) sc_overlap.nd rfl (Or.inl rfl) (pe_lst pa_nil))
    (pss_cons (ps_for PassesOwn.never rfl (pi_zip (by rfl) T.b_zip (pa_cons (pv 0) (pa_cons (pv 1) pa_nil))) (pg_tup rfl (pgs_cons (pg_name (i := 3) sc_overlap.nd rfl (Or.inl rfl)) (pgs_cons (pg_name (i := 4) sc_overlap.nd rfl (Or.inr rfl)) pgs_nil))) (pss_one (ps_expr (pe_bm PySem.F.plainAttrs_list PySem.F.slot_list_append PySem.F.type_list_append mt_append (pv 2) (pa_cons (pe_lc (own := [("position", 5)]) (g := (gName 5)) rfl sc_overlap.nd (pi_list (pv 3)) (blkOk_by (own := [("position", 5)]) (N := N_overlap) (sc := defScope s_overlap) (by decide +kernel)) (fun _ _ _ _ _ => (pg_name (i := 5) sc_overlap.nd rfl (Or.inl rfl))) (fun _ _ _ _ _ => (pts_one (pt_cmpR op_in_seq (pv 5) (pv 4) (by rfl)))) (fun _ _ _ _ _ => (pv 5))) pa_nil)))))
    (pss_one (ps_ret (pv 2)))))
theorem rd_all_possible (T : Txt K mg C) {vs : List V} {H : Hp} {Q : VK} {E : XK} (h : sp_all_possible K C vs H Q E) : t_all_possible K C { nx := fun _ H' => Q .non H', rt := Q } (start N_all_possible vs) H := mSp_rd (fun r us G hv hk => bd_all_possible T r hv hk) h
theorem ok_all_possible (T : Txt K mg C) {f : Addr} {fd : FuncData} (F : Fun K "all_possible" "all_possible" s_all_possible f fd) (D_possible : Def P w K mg base 6 "possible" ["room", "prop"] (sp_possible K C)) : FnOk P w K mg base CX0 7 f fd ["room"] (sp_all_possible K C) := by
  refine F.ok sc_all_possible (fun _ _ _ _ h => len_all_possible h) (fun cdv A outer s H vs Q E hr h => ⟨t_all_possible K C, ?_, rd_all_possible T h⟩)
  exact (pss_one (ps_ret (pe_lc (own := [("prop", 1)]) (g := (gName 1)) rfl sc_all_possible.nd (pi_range1 (by rfl) T.b_range (pa_cons (pe_callB call_len_seq (by rfl) T.b_len PySem.boot_len (pa_cons (pe_fld (pv 0) rfl) pa_nil)) pa_nil)) (blkOk_by (own := [("prop", 1)]) (N := N_all_possible) (sc := defScope s_all_possible) (by decide +kernel)) (fun _ _ _ _ _ => (pg_name (i := 1) sc_all_possible.nd rfl (Or.inl rfl))) (fun _ _ _ _ _ => pts_nil) (fun _ _ _ _ _ => (pc D_possible (hr.mono (by decide)) (by rfl) (pa_cons (pv 0) (pa_cons (pv 1) pa_nil)))))))
theorem rd_can_be (T : Txt K mg C) {vs : List V} {H : Hp} {Q : VK} {E : XK} (h : sp_can_be K C vs H Q E) : t_can_be K C { nx := fun _ H' => Q .non H', rt := Q } (start N_can_be vs) H := mSp_rd (fun r us G hv hk => bd_can_be T r hv hk) h
theorem ok_can_be (T : Txt K mg C) {f : Addr} {fd : FuncData} (F : Fun K "can_be" "can_be" s_can_be f fd) (D_something : Def P w K mg base 1 "something" ["few", "most"] (sp_something K C)) (D_fewest_each : Def P w K mg base 3 "fewest_each" ["table"] (sp_fewest_each K C)) (D_all_possible : Def P w K mg base 7 "all_possible" ["room"] (sp_all_possible K C)) : FnOk P w K mg base CX0 8 f fd ["room"] (sp_can_be K C) := by
  refine F.ok sc_can_be (fun _ _ _ _ h => len_can_be h) (fun cdv A outer s H vs Q E hr h => ⟨t_can_be K C, ?_, rd_can_be T h⟩)
  exact (pss_one (ps_ret (pc D_something (hr.mono (by decide)) (by rfl) (pa_cons (pc D_fewest_each (hr.mono (by decide)) (by rfl) (pa_cons (pc D_all_possible (hr.mono (by decide)) (by rfl) (pa_cons (pv 0) pa_nil)) pa_nil)) (pa_cons (pe_fld (pv 0) rfl) pa_nil)))))
theorem ok_do_begin (T : Txt K mg C) {f : Addr} {fd : FuncData} (F : Fun K "do_begin" "do_begin" s_do_begin f fd) (D_Room_begin : DefM P w K mg base 1 "begin" C.R ["self", "most"] (sp_Room_begin K C)) : FnOk P w K mg base CX0 2 f fd ["room", "most"] (sp_do_begin K C) := by
  refine F.ok sc_do_begin (fun _ _ _ _ h => len_do_begin h) (fun cdv A outer s H vs Q E hr h => ⟨t_do_begin K C, ?_, rd_do_begin T h⟩)
  exact (pss_cons (ps_if (pt_not (pt_chain op_le op_le pe_int (pv 1) pe_int)) (pss_one (ps_ret (pe_lst (pa_cons (pe_un un_neg pe_int) pa_nil)))) pss_nil)
    (pss_cons (ps_expr (pc_meth T.clR D_Room_begin (hr.mono (by decide)) (pv 0) (pa_cons (pv 1) pa_nil)))
    (pss_one (ps_ret (pe_lst (pa_cons pe_int pa_nil))))))
theorem rd_moves_are_right (T : Txt K mg C) {vs : List V} {H : Hp} {Q : VK} {E : XK} (h : sp_moves_are_right K C vs H Q E) : t_moves_are_right K C { nx := fun _ H' => Q .non H', rt := Q } (start N_moves_are_right vs) H := mSp_rd (fun ⟨r, ms⟩ us G hv hk => bd_moves_are_right T r ms hv hk) h
theorem ok_moves_are_right (T : Txt K mg C) {f : Addr} {fd : FuncData} (F : Fun K "moves_are_right" "moves_are_right" s_moves_are_right f fd)  : FnOk P w K mg base CX0 1 f fd ["room", "moves"] (sp_moves_are_right K C) := by
  refine F.ok sc_moves_are_right (fun _ _ _ _ h => len_moves_are_right h) (fun cdv A outer s H vs Q E hr h => ⟨t_moves_are_right K C, ?_, rd_moves_are_right T h⟩)
  exact (pss_cons (ps_if (pt_cmpR op_ne (pe_callB call_len_seq (by rfl) T.b_len PySem.boot_len (pa_cons (pv 1) pa_nil)) (pe_callB call_len_seq (by rfl) T.b_len PySem.boot_len (pa_cons (pe_fld (pv 0) rfl) pa_nil)) (nomark _)) (pss_one (ps_ret pe_bl)) pss_nil)
    (pss_cons (ps_for PassesOwn.never rfl (pi_zip (by rfl) T.b_zip (pa_cons (pe_fld (pv 0) rfl) (pa_cons (pv 1) pa_nil))) (pg_tup rfl (pgs_cons (pg_name (i := 2) sc_moves_are_right.nd rfl (Or.inl rfl)) (pgs_cons (pg_name (i := 3) sc_moves_are_right.nd rfl (Or.inl rfl)) pgs_nil))) (pss_one (ps_if (pt_not (pt_chain op_le op_lt (pe_un un_neg pe_int) (pv 3) (pe_fld (pv 2) rfl))) (pss_one (ps_ret pe_bl)) pss_nil)))
    (pss_one (ps_ret pe_bl))))
theorem ok_do_allow (T : Txt K mg C) {f : Addr} {fd : FuncData} (F : Fun K "do_allow" "do_allow" s_do_allow f fd) (D_Room_allow : DefM P w K mg base 1 "allow" C.R ["self", "most"] (sp_Room_allow K C)) : FnOk P w K mg base CX0 2 f fd ["room", "most"] (sp_do_allow K C) := by
  refine F.ok sc_do_allow (fun _ _ _ _ h => len_do_allow h) (fun cdv A outer s H vs Q E hr h => ⟨t_do_allow K C, ?_, rd_do_allow T h⟩)
  exact (pss_cons (ps_if (pt_not (pt_chain op_le op_le pe_int (pv 1) pe_int)) (pss_one (ps_ret (pe_lst (pa_cons (pe_un un_neg pe_int) pa_nil)))) pss_nil)
    (pss_cons (ps_expr (pc_meth T.clR D_Room_allow (hr.mono (by decide)) (pv 0) (pa_cons (pv 1) pa_nil)))
    (pss_one (ps_ret (pe_lst (pa_cons pe_int pa_nil))))))
theorem rd_say_explain (T : Txt K mg C) {vs : List V} {H : Hp} {Q : VK} {E : XK} (h : sp_say_explain K C vs H Q E) : t_say_explain K C { nx := fun _ H' => Q .non H', rt := Q } (start N_say_explain vs) H := mSp_rd (fun ⟨r, p⟩ us G hv hk => bd_say_explain T r p hv hk) h
theorem ok_say_explain (T : Txt K mg C) {f : Addr} {fd : FuncData} (F : Fun K "say_explain" "say_explain" s_say_explain f fd) (D_is_prop : Def P w K mg base 1 "is_prop" ["room", "prop"] (sp_is_prop K C)) (D_left_of : Def P w K mg base 9 "left_of" ["room", "prop"] (sp_left_of K C)) (D_at_most : Def P w K mg base 2 "at_most" ["rows", "limit"] (sp_at_most K C)) (D_fewest_of : Def P w K mg base 2 "fewest_of" ["rows"] (sp_fewest_of K C)) (D_least_course : Def P w K mg base 3 "least_course" ["moves", "allowed"] (sp_least_course K C)) : FnOk P w K mg base CX0 10 f fd ["room", "prop"] (sp_say_explain K C) := by
  refine F.ok sc_say_explain (fun _ _ _ _ h => len_say_explain h) (fun cdv A outer s H vs Q E hr h => ⟨t_say_explain K C, ?_, rd_say_explain T h⟩)
  exact (pss_cons (ps_if (pt_not (pt_val (pc D_is_prop (hr.mono (by decide)) (by rfl) (pa_cons (pv 0) (pa_cons (pv 1) pa_nil))))) (pss_one (ps_ret (pe_lst (pa_cons (pe_un un_neg pe_int) pa_nil)))) pss_nil)
    (pss_cons (ps_if (pt_not (pt_val (pe_fld (pv 0) rfl))) (pss_one (ps_ret (pe_lst (pa_cons (pe_un un_neg pe_int) pa_nil)))) pss_nil)
    (pss_cons (ps_set (i := 2) sc_say_explain.nd rfl (Or.inl rfl) (pc D_left_of (hr.mono (by decide)) (by rfl) (pa_cons (pv 0) (pa_cons (pv 1) pa_nil))))
    (pss_cons (ps_if (pt_cmpR op_eq (pe_callB call_len_seq (by rfl) T.b_len PySem.boot_len (pa_cons (pv 2) pa_nil)) pe_int (nomark _)) (pss_one (ps_ret (pe_lst (pa_cons (pe_un un_neg pe_int) pa_nil)))) pss_nil)
    (pss_cons (ps_asg (pe_ix ix_list (pc D_at_most (hr.mono (by decide)) (by rfl) (pa_cons (pv 2) (pa_cons (pc D_fewest_of (hr.mono (by decide)) (by rfl) (pa_cons (pv 2) pa_nil)) pa_nil))) pe_int (fun _ _ => rfl)) (pg_tup rfl (pgs_cons (pg_name (i := 3) sc_say_explain.nd rfl (Or.inl rfl)) (pgs_cons (pg_name (i := 4) sc_say_explain.nd rfl (Or.inl rfl)) pgs_nil))))
    (pss_one (ps_ret (pe_op op_cat (pe_op op_cat (pe_lst (pa_cons pe_int pa_nil)) (pv 3)) (pc D_least_course (hr.mono (by decide)) (by rfl) (pa_cons (pe_fld (pe_ix ix_list (pe_fld (pv 0) rfl) (pv 1) (fun _ _ => rfl)) rfl) (pa_cons (pv 4) pa_nil)))))))))))
theorem rd_say_state (T : Txt K mg C) {vs : List V} {H : Hp} {Q : VK} {E : XK} (h : sp_say_state K C vs H Q E) : t_say_state K C { nx := fun _ H' => Q .non H', rt := Q } (start N_say_state vs) H := mSp_rd (fun r us G hv hk => bd_say_state T r hv hk) h
theorem ok_say_state (T : Txt K mg C) {f : Addr} {fd : FuncData} (F : Fun K "say_state" "say_state" s_say_state f fd)  : FnOk P w K mg base CX0 1 f fd ["room"] (sp_say_state K C) := by
  refine F.ok sc_say_state (fun _ _ _ _ h => len_say_state h) (fun cdv A outer s H vs Q E hr h => ⟨t_say_state K C, ?_, rd_say_state T h⟩)
  exact (pss_one (ps_ret (pe_lst (pa_cons pe_int (pa_cons (pe_callB call_len_seq (by rfl) T.b_len PySem.boot_len (pa_cons (pe_fld (pv 0) rfl) pa_nil)) (pa_cons (pe_callB call_len_seq (by rfl) T.b_len PySem.boot_len (pa_cons (pe_fld (pv 0) rfl) pa_nil)) (pa_cons (pe_ifExp (pt_val (pe_fld (pv 0) rfl)) pe_int pe_int) (pa_cons (pe_fld (pv 0) rfl) (pa_cons (pe_fld (pv 0) rfl) pa_nil)))))))))
theorem rd_may_read (T : Txt K mg C) {vs : List V} {H : Hp} {Q : VK} {E : XK} (h : sp_may_read K C vs H Q E) : t_may_read K C { nx := fun _ H' => Q .non H', rt := Q } (start N_may_read vs) H := mSp_rd (fun ⟨x, f, been, told, turn, now⟩ us G hv hk => bd_may_read T x f been told turn now hv hk) h
theorem ok_may_read (T : Txt K mg C) {f : Addr} {fd : FuncData} (F : Fun K "may_read" "may_read" s_may_read f fd) (D_stuck_reads : Def P w K mg base 2 "stuck_reads" ["sensor", "tick"] (sp_stuck_reads K C)) (D_around : Def P w K mg base 1 "around" ["sensor", "position"] (sp_around K C)) : FnOk P w K mg base CX0 3 f fd ["sensor", "fault", "been", "told", "turn", "now"] (sp_may_read K C) := by
  refine F.ok sc_may_read (fun _ _ _ _ h => len_may_read h) (fun cdv A outer s H vs Q E hr h => ⟨t_may_read K C, ?_, rd_may_read T h⟩)
  exact (pss_cons (ps_if (pt_cmpR op_ge (pv 1) (pe_globI rfl T.g_STUCK) (nomark _)) (pss_one (ps_ret (pc D_stuck_reads (hr.mono (by decide)) (by rfl) (pa_cons (pv 0) (pa_cons (pe_op op_sub (pv 1) (pe_globI rfl T.g_STUCK)) pa_nil))))) pss_nil)
    (pss_cons (ps_set (i := 6) sc_may_read.nd rfl (Or.inl rfl) (pe_op op_sub (pe_op op_add (pe_op op_add (pv 5) pe_int) (pv 4)) (pv 1)))
    (pss_cons (ps_if (pt_cmpR op_gt (pv 6) (pv 5) (nomark _)) (pss_one (ps_ret (pe_lst (pa_cons (pc D_around (hr.mono (by decide)) (by rfl) (pa_cons (pv 0) (pa_cons (pe_ix ix_list (pv 3) (pe_op op_sub (pe_op op_sub (pv 6) (pv 5)) pe_int) (fun _ _ => rfl)) pa_nil))) pa_nil)))) pss_nil)
    (pss_cons (ps_if (pt_cmpR op_lt (pv 6) (pe_fld (pv 0) rfl) (nomark _)) (pss_one (ps_ret (pe_lst (pa_cons (pe_tup (pa_cons pe_int (pa_cons (pe_globI rfl T.g_GREATEST) pa_nil))) pa_nil)))) pss_nil)
    (pss_one (ps_ret (pe_lc (own := [("position", 7)]) (g := (gName 7)) rfl sc_may_read.nd (pi_list (pe_ix ix_list (pv 2) (pv 6) (fun _ _ => rfl))) (blkOk_by (own := [("position", 7)]) (N := N_may_read) (sc := defScope s_may_read) (by decide +kernel)) (fun _ _ _ _ _ => (pg_name (i := 7) sc_may_read.nd rfl (Or.inl rfl))) (fun _ _ _ _ _ => pts_nil) (fun _ _ _ _ _ => (pc D_around (hr.mono (by decide)) (by rfl) (pa_cons (pv 0) (pa_cons (pv 7) pa_nil)))))))))))
theorem rd_none_alike (T : Txt K mg C) {vs : List V} {H : Hp} {Q : VK} {E : XK} (h : sp_none_alike K C vs H Q E) : t_none_alike K C { nx := fun _ H' => Q .non H', rt := Q } (start N_none_alike vs) H := mSp_rd (fun ⟨a, b⟩ us G hv hk => bd_none_alike T a b hv hk) h
theorem ok_none_alike (T : Txt K mg C) {f : Addr} {fd : FuncData} (F : Fun K "none_alike" "none_alike" s_none_alike f fd) (D_alike : Def P w K mg base 2 "alike" ["one", "two"] (sp_alike K C)) : FnOk P w K mg base CX0 3 f fd ["ones", "twos"] (sp_none_alike K C) := by
  refine F.ok sc_none_alike (fun _ _ _ _ h => len_none_alike h) (fun cdv A outer s H vs Q E hr h => ⟨t_none_alike K C, ?_, rd_none_alike T h⟩)
  exact (pss_cons (ps_for PassesOwn.never rfl (pi_list (pv 0)) (pg_name (i := 2) sc_none_alike.nd rfl (Or.inl rfl)) (pss_one (ps_for PassesOwn.never rfl (pi_list (pv 1)) (pg_name (i := 3) sc_none_alike.nd rfl (Or.inl rfl)) (pss_one (ps_if (pt_val (pc D_alike (hr.mono (by decide)) (by rfl) (pa_cons (pv 2) (pa_cons (pv 3) pa_nil)))) (pss_one (ps_ret pe_bl)) pss_nil)))))
    (pss_one (ps_ret pe_bl)))
theorem rd_candidates (T : Txt K mg C) {vs : List V} {H : Hp} {Q : VK} {E : XK} (h : sp_candidates K C vs H Q E) : t_candidates K C { nx := fun _ H' => Q .non H', rt := Q } (start N_candidates vs) H := mSp_rd (fun ⟨size, many⟩ us G hv hk => bd_candidates T size many hv hk) h
theorem ok_candidates (T : Txt K mg C) {f : Addr} {fd : FuncData} (F : Fun K "candidates" "candidates" s_candidates f fd) (D_longer_rows : Def P w K mg base 1 "longer_rows" ["rows", "size"] (sp_longer_rows K C)) : FnOk P w K mg base CX0 2 f fd ["size", "many"] (sp_candidates K C) := by
  refine F.ok sc_candidates (fun _ _ _ _ h => len_candidates h) (fun cdv A outer s H vs Q E hr h => ⟨t_candidates K C, ?_, rd_candidates T h⟩)
  exact (pss_cons (ps_set (i := 2) sc_candidates.nd rfl (Or.inl rfl) (pe_lst (pa_cons (pe_lst pa_nil) pa_nil)))
    (pss_cons (ps_set (i := 3) sc_candidates.nd rfl (Or.inl rfl) (pe_lst (pa_cons (pe_lst pa_nil) pa_nil)))
    (pss_cons (ps_for PassesOwn.never rfl (pi_range1 (by rfl) T.b_range (pa_cons (pv 1) pa_nil)) (pg_name (i := 4) sc_candidates.nd rfl (Or.inl rfl)) (pss_cons (ps_set (i := 2) sc_candidates.nd rfl (Or.inl rfl) (pc D_longer_rows (hr.mono (by decide)) (by rfl) (pa_cons (pv 2) (pa_cons (pv 0) pa_nil))))
    (pss_one (ps_set (i := 3) sc_candidates.nd rfl (Or.inl rfl) (pe_op op_cat (pv 3) (pv 2))))))
    (pss_one (ps_ret (pv 3))))))
theorem rd_say_blame (T : Txt K mg C) {vs : List V} {H : Hp} {Q : VK} {E : XK} (h : sp_say_blame K C vs H Q E) : t_say_blame K C { nx := fun _ H' => Q .non H', rt := Q } (start N_say_blame vs) H := mSp_rd (fun ⟨r, i⟩ us G hv hk => bd_say_blame T r i hv hk) h
theorem ok_say_blame (T : Txt K mg C) {f : Addr} {fd : FuncData} (F : Fun K "say_blame" "say_blame" s_say_blame f fd) (D_is_sensor : Def P w K mg base 1 "is_sensor" ["room", "number"] (sp_is_sensor K C)) (D_place_of : Def P w K mg base 1 "place_of" ["room", "number"] (sp_place_of K C)) (D_left_of : Def P w K mg base 9 "left_of" ["room", "prop"] (sp_left_of K C)) (D_place_in_five : Def P w K mg base 1 "place_in_five" ["fault"] (sp_place_in_five K C)) : FnOk P w K mg base CX0 10 f fd ["room", "number"] (sp_say_blame K C) := by
  refine F.ok sc_say_blame (fun _ _ _ _ h => len_say_blame h) (fun cdv A outer s H vs Q E hr h => ⟨t_say_blame K C, ?_, rd_say_blame T h⟩)
  exact (pss_cons (ps_if (pt_not (pt_val (pc D_is_sensor (hr.mono (by decide)) (by rfl) (pa_cons (pv 0) (pa_cons (pv 1) pa_nil))))) (pss_one (ps_ret (pe_lst (pa_cons (pe_un un_neg pe_int) pa_nil)))) pss_nil)
    (pss_cons (ps_if (pt_not (pt_val (pe_fld (pv 0) rfl))) (pss_one (ps_ret (pe_lst (pa_cons (pe_un un_neg pe_int) pa_nil)))) pss_nil)
    (pss_cons (ps_set (i := 2) sc_say_blame.nd rfl (Or.inr rfl) (pc D_place_of (hr.mono (by decide)) (by rfl) (pa_cons (pv 0) (pa_cons (pv 1) pa_nil))))
    (pss_cons (ps_set (i := 3) sc_say_blame.nd rfl (Or.inr rfl) (pe_lc (own := [("faults", 4), ("allowed", 5)]) (g := (gTup K 2 (gCons (gName 4) (gCons (gName 5) gNil)))) rfl sc_say_blame.nd (pi_list (pc D_left_of (hr.mono (by decide)) (by rfl) (pa_cons (pv 0) (pa_cons (pe_fld (pe_ix ix_list (pe_fld (pv 0) rfl) (pv 1) (fun _ _ => rfl)) rfl) pa_nil)))) (blkOk_by (own := [("faults", 4), ("allowed", 5)]) (N := N_say_blame) (sc := defScope s_say_blame) (by decide +kernel)) (fun _ _ _ _ _ => (pg_tup rfl (pgs_cons (pg_name (i := 4) sc_say_blame.nd rfl (Or.inl rfl)) (pgs_cons (pg_name (i := 5) sc_say_blame.nd rfl (Or.inl rfl)) pgs_nil)))) (fun _ _ _ _ _ => pts_nil) (fun _ _ _ _ _ => (pc D_place_in_five (hr.mono (by decide)) (by rfl) (pa_cons (pe_ix ix_list (pv 4) (pv 2) (fun _ _ => rfl)) pa_nil)))))
    (pss_one (ps_ret (pe_op op_cat (pe_lst (pa_cons pe_int pa_nil)) (pe_lc (own := [("five", 6)]) (g := (gName 6)) rfl sc_say_blame.nd (pi_range1 (by rfl) T.b_range (pa_cons pe_int pa_nil)) (blkOk_by (own := [("five", 6)]) (N := N_say_blame) (sc := defScope s_say_blame) (by decide +kernel)) (fun _ _ _ _ _ => (pg_name (i := 6) sc_say_blame.nd rfl (Or.inl rfl))) (fun _ _ _ _ _ => pts_nil) (fun _ _ _ _ _ => (pe_ifExp (pt_cmpR op_in_seq (pv 6) (pv 3) (by rfl)) pe_int pe_int))))))))))
theorem rd_say_sure (T : Txt K mg C) {vs : List V} {H : Hp} {Q : VK} {E : XK} (h : sp_say_sure K C vs H Q E) : t_say_sure K C { nx := fun _ H' => Q .non H', rt := Q } (start N_say_sure vs) H := mSp_rd (fun r us G hv hk => bd_say_sure T r hv hk) h
theorem ok_say_sure (T : Txt K mg C) {f : Addr} {fd : FuncData} (F : Fun K "say_sure" "say_sure" s_say_sure f fd) (D_can_be : Def P w K mg base 8 "can_be" ["room"] (sp_can_be K C)) (D_all_left : Def P w K mg base 8 "all_left" ["room"] (sp_all_left K C)) (D_never_fine : Def P w K mg base 2 "never_fine" ["room", "table", "number"] (sp_never_fine K C)) : FnOk P w K mg base CX0 9 f fd ["room"] (sp_say_sure K C) := by
  refine F.ok sc_say_sure (fun _ _ _ _ h => len_say_sure h) (fun cdv A outer s H vs Q E hr h => ⟨t_say_sure K C, ?_, rd_say_sure T h⟩)
  exact (pss_cons (ps_if (pt_not (pt_val (pe_fld (pv 0) rfl))) (pss_one (ps_ret (pe_lst (pa_cons (pe_un un_neg pe_int) pa_nil)))) pss_nil)
    (pss_cons (ps_if (pt_not (pt_val (pc D_can_be (hr.mono (by decide)) (by rfl) (pa_cons (pv 0) pa_nil)))) (pss_one (ps_ret (pe_lst (pa_cons (pe_un un_neg pe_int) pa_nil)))) pss_nil)
    (pss_cons (ps_set (i := 1) sc_say_sure.nd rfl (Or.inr rfl) (pc D_all_left (hr.mono (by decide)) (by rfl) (pa_cons (pv 0) pa_nil)))
    (pss_one (ps_ret (pe_op op_cat (pe_lst (pa_cons pe_int pa_nil)) (pe_lc (own := [("number", 2)]) (g := (gName 2)) rfl sc_say_sure.nd (pi_range1 (by rfl) T.b_range (pa_cons (pe_callB call_len_seq (by rfl) T.b_len PySem.boot_len (pa_cons (pe_fld (pv 0) rfl) pa_nil)) pa_nil)) (blkOk_by (own := [("number", 2)]) (N := N_say_sure) (sc := defScope s_say_sure) (by decide +kernel)) (fun _ _ _ _ _ => (pg_name (i := 2) sc_say_sure.nd rfl (Or.inl rfl))) (fun _ _ _ _ _ => (pts_one (pt_val (pc D_never_fine (hr.mono (by decide)) (by rfl) (pa_cons (pv 0) (pa_cons (pv 1) (pa_cons (pv 2) pa_nil))))))) (fun _ _ _ _ _ => (pv 2)))))))))
theorem rd_say_reads (T : Txt K mg C) {vs : List V} {H : Hp} {Q : VK} {E : XK} (h : sp_say_reads K C vs H Q E) : t_say_reads K C { nx := fun _ H' => Q .non H', rt := Q } (start N_say_reads vs) H := mSp_rd (fun ⟨r, i⟩ us G hv hk => bd_say_reads T r i hv hk) h
theorem ok_say_reads (T : Txt K mg C) {f : Addr} {fd : FuncData} (F : Fun K "say_reads" "say_reads" s_say_reads f fd) (D_is_sensor : Def P w K mg base 1 "is_sensor" ["room", "number"] (sp_is_sensor K C)) : FnOk P w K mg base CX0 2 f fd ["room", "number"] (sp_say_reads K C) := by
  refine F.ok sc_say_reads (fun _ _ _ _ h => len_say_reads h) (fun cdv A outer s H vs Q E hr h => ⟨t_say_reads K C, ?_, rd_say_reads T h⟩)
  exact (pss_cons (ps_if (pt_not (pt_val (pc D_is_sensor (hr.mono (by decide)) (by rfl) (pa_cons (pv 0) (pa_cons (pv 1) pa_nil))))) (pss_one (ps_ret (pe_lst (pa_cons (pe_un un_neg pe_int) pa_nil)))) pss_nil)
    (pss_cons (ps_if (pt_not (pt_val (pe_fld (pv 0) rfl))) (pss_one (ps_ret (pe_lst (pa_cons (pe_un un_neg pe_int) pa_nil)))) pss_nil)
    (pss_cons (ps_set (i := 2) sc_say_reads.nd rfl (Or.inl rfl) (pe_ix ix_list (pe_fld (pv 0) rfl) (pv 1) (fun _ _ => rfl)))
    (pss_one (ps_ret (pe_op op_cat (pe_lst (pa_cons pe_int (pa_cons (pe_fld (pv 2) rfl) pa_nil))) (pe_slice sl_list (pe_fld (pv 2) rfl) (po_some (pe_fld (pv 2) rfl)) po_none)))))))
theorem ok_answer_of (T : Txt K mg C) {f : Addr} {fd : FuncData} (F : Fun K "answer_of" "answer_of" s_answer_of f fd) (D_act : Def P w K mg base 10 "act" ["room", "call", "numbers", "rows"] (sp_act K C)) (D_ask_prop : Def P w K mg base 11 "ask_prop" ["room", "call", "numbers", "rows"] (sp_ask_prop K C)) (D_ask_sensor : Def P w K mg base 13 "ask_sensor" ["room", "call", "numbers", "rows"] (sp_ask_sensor K C)) : FnOk P w K mg base CX0 14 f fd ["room", "call", "numbers", "rows"] (sp_answer_of K C) := by
  refine F.ok sc_answer_of (fun _ _ _ _ h => len_answer_of h) (fun cdv A outer s H vs Q E hr h => ⟨t_answer_of K C, ?_, rd_answer_of T h⟩)
  exact (pss_cons (ps_if (pt_cmpR op_in_seq (pv 1) (pe_tup (pa_cons pe_int (pa_cons pe_int (pa_cons pe_int (pa_cons pe_int (pa_cons pe_int (pa_cons pe_int (pa_cons pe_int pa_nil)))))))) (by rfl)) (pss_one (ps_ret (pc D_act (hr.mono (by decide)) (by rfl) (pa_cons (pv 0) (pa_cons (pv 1) (pa_cons (pv 2) (pa_cons (pv 3) pa_nil))))))) pss_nil)
    (pss_cons (ps_if (pt_cmpR op_in_seq (pv 1) (pe_tup (pa_cons pe_int (pa_cons pe_int (pa_cons pe_int (pa_cons pe_int (pa_cons pe_int (pa_cons pe_int (pa_cons pe_int pa_nil)))))))) (by rfl)) (pss_one (ps_ret (pc D_ask_prop (hr.mono (by decide)) (by rfl) (pa_cons (pv 0) (pa_cons (pv 1) (pa_cons (pv 2) (pa_cons (pv 3) pa_nil))))))) pss_nil)
    (pss_one (ps_ret (pc D_ask_sensor (hr.mono (by decide)) (by rfl) (pa_cons (pv 0) (pa_cons (pv 1) (pa_cons (pv 2) (pa_cons (pv 3) pa_nil)))))))))
end
end Sk
/-! part Dv2 -/
namespace Sk
open PySem PySem.Spec PyProof.Rows L2 Evl
theorem sc_Room_init : FnScope N_Room_init ["self"] (defScope s_Room_init) := ⟨rfl, rfl, rfl, by decide +kernel, rfl, by decide +kernel, by decide +kernel⟩
theorem sc_Room_go : FnScope N_Room_go ["self"] (defScope s_Room_go) := ⟨rfl, rfl, rfl, by decide +kernel, rfl, by decide +kernel, by decide +kernel⟩
theorem sc_is_prop : FnScope N_is_prop ["room", "prop"] (defScope s_is_prop) := ⟨rfl, rfl, rfl, by decide +kernel, rfl, by decide +kernel, by decide +kernel⟩
theorem sc_goes : FnScope N_goes ["move", "before", "after"] (defScope s_goes) := ⟨rfl, rfl, rfl, by decide +kernel, rfl, by decide +kernel, by decide +kernel⟩
theorem sc_exists : FnScope N_exists ["moves", "allowed"] (defScope s_exists) := ⟨rfl, rfl, rfl, by decide +kernel, rfl, by decide +kernel, by decide +kernel⟩
theorem sc_within : FnScope N_within ["course", "allowed"] (defScope s_within) := ⟨rfl, rfl, rfl, by decide +kernel, rfl, by decide +kernel, by decide +kernel⟩
theorem sc_stuck_ticks : FnScope N_stuck_ticks ["sensor", "now"] (defScope s_stuck_ticks) := ⟨rfl, rfl, rfl, by decide +kernel, rfl, by decide +kernel, by decide +kernel⟩
theorem sc_agrees : FnScope N_agrees ["sensor", "reading", "position"] (defScope s_agrees) := ⟨rfl, rfl, rfl, by decide +kernel, rfl, by decide +kernel, by decide +kernel⟩
theorem sc_count_faults : FnScope N_count_faults ["faults"] (defScope s_count_faults) := ⟨rfl, rfl, rfl, by decide +kernel, rfl, by decide +kernel, by decide +kernel⟩
theorem sc_fewest_of : FnScope N_fewest_of ["rows"] (defScope s_fewest_of) := ⟨rfl, rfl, rfl, by decide +kernel, rfl, by decide +kernel, by decide +kernel⟩
theorem sc_at_most : FnScope N_at_most ["rows", "limit"] (defScope s_at_most) := ⟨rfl, rfl, rfl, by decide +kernel, rfl, by decide +kernel, by decide +kernel⟩
theorem sc_do_prop : FnScope N_do_prop ["room", "size"] (defScope s_do_prop) := ⟨rfl, rfl, rfl, by decide +kernel, rfl, by decide +kernel, by decide +kernel⟩
theorem sc_readings_are_right : FnScope N_readings_are_right ["room", "readings"] (defScope s_readings_are_right) := ⟨rfl, rfl, rfl, by decide +kernel, rfl, by decide +kernel, by decide +kernel⟩
theorem sc_stands : FnScope N_stands ["rows", "position"] (defScope s_stands) := ⟨rfl, rfl, rfl, by decide +kernel, rfl, by decide +kernel, by decide +kernel⟩
theorem sc_explains : FnScope N_explains ["room", "prop", "faults", "course"] (defScope s_explains) := ⟨rfl, rfl, rfl, by decide +kernel, rfl, by decide +kernel, by decide +kernel⟩
theorem sc_say_ways : FnScope N_say_ways ["room", "prop"] (defScope s_say_ways) := ⟨rfl, rfl, rfl, by decide +kernel, rfl, by decide +kernel, by decide +kernel⟩
theorem sc_reads_ahead : FnScope N_reads_ahead ["sensors", "view", "told", "now"] (defScope s_reads_ahead) := ⟨rfl, rfl, rfl, by decide +kernel, rfl, by decide +kernel, by decide +kernel⟩
theorem sc_views_left : FnScope N_views_left ["room", "prop"] (defScope s_views_left) := ⟨rfl, rfl, rfl, by decide +kernel, rfl, by decide +kernel, by decide +kernel⟩
theorem sc_settles_now : FnScope N_settles_now ["room", "number", "told"] (defScope s_settles_now) := ⟨rfl, rfl, rfl, by decide +kernel, rfl, by decide +kernel, by decide +kernel⟩
theorem sc_goes_on : FnScope N_goes_on ["moves", "allowances", "rows"] (defScope s_goes_on) := ⟨rfl, rfl, rfl, by decide +kernel, rfl, by decide +kernel, by decide +kernel⟩
theorem sc_say_settle : FnScope N_say_settle ["room", "number", "many"] (defScope s_say_settle) := ⟨rfl, rfl, rfl, by decide +kernel, rfl, by decide +kernel, by decide +kernel⟩
theorem sc_act : FnScope N_act ["room", "call", "numbers", "rows"] (defScope s_act) := ⟨rfl, rfl, rfl, by decide +kernel, rfl, by decide +kernel, by decide +kernel⟩
theorem sc_rows_at : FnScope N_rows_at ["calls", "at", "many"] (defScope s_rows_at) := ⟨rfl, rfl, rfl, by decide +kernel, rfl, by decide +kernel, by decide +kernel⟩
section
variable {P : Program} {w : World} {K : PySem.W.Frag} {mg : Str → Option Value} {base : Heap} {C : Cs}
theorem ok_Room_init (T : Txt K mg C) {f : Addr} {fd : FuncData} (F : Fun K "__init__" "Room.__init__" s_Room_init f fd)  : FnOk P w K mg base CX0 1 f fd ["self"] (sp_Room_init K C) := by
  refine F.ok sc_Room_init (fun _ _ _ _ h => len_Room_init h) (fun cdv A outer s H vs Q E hr h => ⟨t_Room_init K C, ?_, rd_Room_init T h⟩)
  exact (pss_cons (ps_fld (pv 0) pe_int rfl)
    (pss_cons (ps_fld (pv 0) pe_bl rfl)
    (pss_cons (ps_fld (pv 0) pe_int rfl)
    (pss_cons (ps_fld (pv 0) (pe_lst pa_nil) rfl)
    (pss_one (ps_fld (pv 0) (pe_lst pa_nil) rfl))))))
theorem ok_Room_go (T : Txt K mg C) {f : Addr} {fd : FuncData} (F : Fun K "go" "Room.go" s_Room_go f fd)  : FnOk P w K mg base CX0 1 f fd ["self"] (sp_Room_go K C) := by
  refine F.ok sc_Room_go (fun _ _ _ _ h => len_Room_go h) (fun cdv A outer s H vs Q E hr h => ⟨t_Room_go K C, ?_, rd_Room_go T h⟩)
  exact (pss_one (ps_fld (pv 0) pe_bl rfl))
theorem rd_is_prop (T : Txt K mg C) {vs : List V} {H : Hp} {Q : VK} {E : XK} (h : sp_is_prop K C vs H Q E) : t_is_prop K C { nx := fun _ H' => Q .non H', rt := Q } (start N_is_prop vs) H := mSp_rd (fun ⟨r, p⟩ us G hv hk => bd_is_prop T r p hv hk) h
theorem ok_is_prop (T : Txt K mg C) {f : Addr} {fd : FuncData} (F : Fun K "is_prop" "is_prop" s_is_prop f fd)  : FnOk P w K mg base CX0 1 f fd ["room", "prop"] (sp_is_prop K C) := by
  refine F.ok sc_is_prop (fun _ _ _ _ h => len_is_prop h) (fun cdv A outer s H vs Q E hr h => ⟨t_is_prop K C, ?_, rd_is_prop T h⟩)
  exact (pss_one (ps_ret (pe_chain op_le op_lt pe_int (pv 1) (pe_callB call_len_seq (by rfl) T.b_len PySem.boot_len (pa_cons (pe_fld (pv 0) rfl) pa_nil)))))
theorem rd_goes (T : Txt K mg C) {vs : List V} {H : Hp} {Q : VK} {E : XK} (h : sp_goes K C vs H Q E) : t_goes K C { nx := fun _ H' => Q .non H', rt := Q } (start N_goes vs) H := mSp_rd (fun ⟨m, a, b⟩ us G hv hk => bd_goes T m a b hv hk) h
theorem ok_goes (T : Txt K mg C) {f : Addr} {fd : FuncData} (F : Fun K "goes" "goes" s_goes f fd)  : FnOk P w K mg base CX0 1 f fd ["move", "before", "after"] (sp_goes K C) := by
  refine F.ok sc_goes (fun _ _ _ _ h => len_goes h) (fun cdv A outer s H vs Q E hr h => ⟨t_goes K C, ?_, rd_goes T h⟩)
  exact (pss_cons (ps_if (pt_cmpR op_eq (pv 0) (pe_globI rfl T.g_HELD) (nomark _)) (pss_one (ps_ret (pe_cmpR op_eq (pv 1) (pv 2) (nomark _)))) pss_nil)
    (pss_one (ps_ret (pe_or (pe_cmpR op_eq (pv 0) (pe_globI rfl T.g_LOOSE_courses) (nomark _)) (pe_one (pe_cmpR op_eq (pv 0) (pv 2) (nomark _)))))))
theorem rd_exists (T : Txt K mg C) {vs : List V} {H : Hp} {Q : VK} {E : XK} (h : sp_exists K C vs H Q E) : t_exists K C { nx := fun _ H' => Q .non H', rt := Q } (start N_exists vs) H := mSp_rd (fun ⟨ms, al⟩ us G hv hk => bd_exists T ms al hv hk) h
theorem ok_exists (T : Txt K mg C) {f : Addr} {fd : FuncData} (F : Fun K "exists" "exists" s_exists f fd) (D_forward : Def P w K mg base 2 "forward" ["moves", "allowed"] (sp_forward K C)) : FnOk P w K mg base CX0 3 f fd ["moves", "allowed"] (sp_exists K C) := by
  refine F.ok sc_exists (fun _ _ _ _ h => len_exists h) (fun cdv A outer s H vs Q E hr h => ⟨t_exists K C, ?_, rd_exists T h⟩)
  exact (pss_cons (ps_set (i := 2) sc_exists.nd rfl (Or.inl rfl) (pc D_forward (hr.mono (by decide)) (by rfl) (pa_cons (pv 0) (pa_cons (pv 1) pa_nil))))
    (pss_one (ps_ret (pe_cmpR op_gt (pe_callB call_len_seq (by rfl) T.b_len PySem.boot_len (pa_cons (pe_ix ix_list (pv 2) (pe_op op_sub (pe_callB call_len_seq (by rfl) T.b_len PySem.boot_len (pa_cons (pv 2) pa_nil)) pe_int) (fun _ _ => rfl)) pa_nil)) pe_int (nomark _)))))
theorem rd_within (T : Txt K mg C) {vs : List V} {H : Hp} {Q : VK} {E : XK} (h : sp_within K C vs H Q E) : t_within K C { nx := fun _ H' => Q .non H', rt := Q } (start N_within vs) H := mSp_rd (fun ⟨c, al⟩ us G hv hk => bd_within T c al hv hk) h
theorem ok_within (T : Txt K mg C) {f : Addr} {fd : FuncData} (F : Fun K "within" "within" s_within f fd)  : FnOk P w K mg base CX0 1 f fd ["course", "allowed"] (sp_within K C) := by
  refine F.ok sc_within (fun _ _ _ _ h => len_within h) (fun cdv A outer s H vs Q E hr h => ⟨t_within K C, ?_, rd_within T h⟩)
  exact (pss_cons (ps_for PassesOwn.never rfl (pi_zip (by rfl) T.b_zip (pa_cons (pv 0) (pa_cons (pv 1) pa_nil))) (pg_tup rfl (pgs_cons (pg_name (i := 2) sc_within.nd rfl (Or.inl rfl)) (pgs_cons (pg_name (i := 3) sc_within.nd rfl (Or.inl rfl)) pgs_nil))) (pss_one (ps_if (pt_cmpR op_notIn_seq (pv 2) (pv 3) (by rfl)) (pss_one (ps_ret pe_bl)) pss_nil)))
    (pss_one (ps_ret pe_bl)))
theorem rd_stuck_ticks (T : Txt K mg C) {vs : List V} {H : Hp} {Q : VK} {E : XK} (h : sp_stuck_ticks K C vs H Q E) : t_stuck_ticks K C { nx := fun _ H' => Q .non H', rt := Q } (start N_stuck_ticks vs) H := mSp_rd (fun ⟨x, now⟩ us G hv hk => bd_stuck_ticks T x now hv hk) h
theorem ok_stuck_ticks (T : Txt K mg C) {f : Addr} {fd : FuncData} (F : Fun K "stuck_ticks" "stuck_ticks" s_stuck_ticks f fd) (D_can_stick : Def P w K mg base 2 "can_stick" ["sensor", "tick"] (sp_can_stick K C)) : FnOk P w K mg base CX0 3 f fd ["sensor", "now"] (sp_stuck_ticks K C) := by
  refine F.ok sc_stuck_ticks (fun _ _ _ _ h => len_stuck_ticks h) (fun cdv A outer s H vs Q E hr h => ⟨t_stuck_ticks K C, ?_, rd_stuck_ticks T h⟩)
  exact (pss_one (ps_ret (pe_lc (own := [("tick", 2)]) (g := (gName 2)) rfl sc_stuck_ticks.nd (pi_range2 (by rfl) T.b_range (pa_cons (pe_fld (pv 0) rfl) (pa_cons (pe_op op_add (pv 1) pe_int) pa_nil))) (blkOk_by (own := [("tick", 2)]) (N := N_stuck_ticks) (sc := defScope s_stuck_ticks) (by decide +kernel)) (fun _ _ _ _ _ => (pg_name (i := 2) sc_stuck_ticks.nd rfl (Or.inl rfl))) (fun _ _ _ _ _ => (pts_one (pt_val (pc D_can_stick (hr.mono (by decide)) (by rfl) (pa_cons (pv 0) (pa_cons (pv 2) pa_nil)))))) (fun _ _ _ _ _ => (pv 2)))))
theorem rd_agrees (T : Txt K mg C) {vs : List V} {H : Hp} {Q : VK} {E : XK} (h : sp_agrees K C vs H Q E) : t_agrees K C { nx := fun _ H' => Q .non H', rt := Q } (start N_agrees vs) H := mSp_rd (fun ⟨x, n, p⟩ us G hv hk => bd_agrees T x n p hv hk) h
theorem ok_agrees (T : Txt K mg C) {f : Addr} {fd : FuncData} (F : Fun K "agrees" "agrees" s_agrees f fd)  : FnOk P w K mg base CX0 1 f fd ["sensor", "reading", "position"] (sp_agrees K C) := by
  refine F.ok sc_agrees (fun _ _ _ _ h => len_agrees h) (fun cdv A outer s H vs Q E hr h => ⟨t_agrees K C, ?_, rd_agrees T h⟩)
  exact (pss_one (ps_ret (pe_or (pe_cmpR op_eq (pv 1) (pe_globI rfl T.g_NOTHING_sights) (nomark _)) (pe_one (pe_cmpR op_le (pe_callB call_abs (by rfl) T.b_abs (by decide +kernel) (pa_cons (pe_op op_sub (pv 1) (pv 2)) pa_nil)) (pe_fld (pv 0) rfl) (nomark _))))))
theorem rd_count_faults (T : Txt K mg C) {vs : List V} {H : Hp} {Q : VK} {E : XK} (h : sp_count_faults K C vs H Q E) : t_count_faults K C { nx := fun _ H' => Q .non H', rt := Q } (start N_count_faults vs) H := mSp_rd (fun fs us G hv hk => bd_count_faults T fs hv hk) h
theorem ok_count_faults (T : Txt K mg C) {f : Addr} {fd : FuncData} (F : Fun K "count_faults" "count_faults" s_count_faults f fd)  : FnOk P w K mg base CX0 1 f fd ["faults"] (sp_count_faults K C) := by
  refine F.ok sc_count_faults (fun _ _ _ _ h => len_count_faults h) (fun cdv A outer s H vs Q E hr h => ⟨t_count_faults K C, ?_, rd_count_faults T h⟩)
  exact (pss_one (ps_ret (pe_callB call_len_seq (by rfl) T.b_len PySem.boot_len (pa_cons (pe_lc (own := [("fault", 1)]) (g := (gName 1)) rfl sc_count_faults.nd (pi_list (pv 0)) (blkOk_by (own := [("fault", 1)]) (N := N_count_faults) (sc := defScope s_count_faults) (by decide +kernel)) (fun _ _ _ _ _ => (pg_name (i := 1) sc_count_faults.nd rfl (Or.inl rfl))) (fun _ _ _ _ _ => (pts_one (pt_cmpR op_ne (pv 1) pe_int (nomark _)))) (fun _ _ _ _ _ => (pv 1))) pa_nil))))
theorem rd_fewest_of (T : Txt K mg C) {vs : List V} {H : Hp} {Q : VK} {E : XK} (h : sp_fewest_of K C vs H Q E) : t_fewest_of K C { nx := fun _ H' => Q .non H', rt := Q } (start N_fewest_of vs) H := mSp_rd (fun ws us G hv hk => bd_fewest_of T ws hv hk) h
theorem ok_fewest_of (T : Txt K mg C) {f : Addr} {fd : FuncData} (F : Fun K "fewest_of" "fewest_of" s_fewest_of f fd) (D_count_faults : Def P w K mg base 1 "count_faults" ["faults"] (sp_count_faults K C)) : FnOk P w K mg base CX0 2 f fd ["rows"] (sp_fewest_of K C) := by
  refine F.ok sc_fewest_of (fun _ _ _ _ h => len_fewest_of h) (fun cdv A outer s H vs Q E hr h => ⟨t_fewest_of K C, ?_, rd_fewest_of T h⟩)
  exact (pss_cons (ps_if (pt_cmpR op_eq (pe_callB call_len_seq (by rfl) T.b_len PySem.boot_len (pa_cons (pv 0) pa_nil)) pe_int (nomark _)) (pss_one (ps_ret (pe_globI rfl T.g_NONE))) pss_nil)
    (pss_one (ps_ret (pe_callB (cr_min rfl) (by rfl) T.b_min (by decide +kernel) (pa_cons (pe_lc (own := [("faults", 1), ("allowed", 2)]) (g := (gTup K 2 (gCons (gName 1) (gCons (gName 2) gNil)))) rfl sc_fewest_of.nd (pi_list (pv 0)) (blkOk_by (own := [("faults", 1), ("allowed", 2)]) (N := N_fewest_of) (sc := defScope s_fewest_of) (by decide +kernel)) (fun _ _ _ _ _ => (pg_tup rfl (pgs_cons (pg_name (i := 1) sc_fewest_of.nd rfl (Or.inl rfl)) (pgs_cons (pg_name (i := 2) sc_fewest_of.nd rfl (Or.inl rfl)) pgs_nil)))) (fun _ _ _ _ _ => pts_nil) (fun _ _ _ _ _ => (pc D_count_faults (hr.mono (by decide)) (by rfl) (pa_cons (pv 1) pa_nil)))) pa_nil)))))
theorem rd_at_most (T : Txt K mg C) {vs : List V} {H : Hp} {Q : VK} {E : XK} (h : sp_at_most K C vs H Q E) : t_at_most K C { nx := fun _ H' => Q .non H', rt := Q } (start N_at_most vs) H := mSp_rd (fun ⟨ws, limit⟩ us G hv hk => bd_at_most T ws limit hv hk) h
theorem ok_at_most (T : Txt K mg C) {f : Addr} {fd : FuncData} (F : Fun K "at_most" "at_most" s_at_most f fd) (D_count_faults : Def P w K mg base 1 "count_faults" ["faults"] (sp_count_faults K C)) : FnOk P w K mg base CX0 2 f fd ["rows", "limit"] (sp_at_most K C) := by
  refine F.ok sc_at_most (fun _ _ _ _ h => len_at_most h) (fun cdv A outer s H vs Q E hr h => ⟨t_at_most K C, ?_, rd_at_most T h⟩)
  exact (pss_one (ps_ret (pe_lc (own := [("way", 2)]) (g := (gName 2)) rfl sc_at_most.nd (pi_list (pv 0)) (blkOk_by (own := [("way", 2)]) (N := N_at_most) (sc := defScope s_at_most) (by decide +kernel)) (fun _ _ _ _ _ => (pg_name (i := 2) sc_at_most.nd rfl (Or.inl rfl))) (fun _ _ _ _ _ => (pts_one (pt_cmpR op_le (pc D_count_faults (hr.mono (by decide)) (by rfl) (pa_cons (pe_ix ix_tup (pv 2) pe_int (fun _ _ => rfl)) pa_nil)) (pv 1) (nomark _)))) (fun _ _ _ _ _ => (pv 2)))))
theorem ok_do_prop (T : Txt K mg C) {f : Addr} {fd : FuncData} (F : Fun K "do_prop" "do_prop" s_do_prop f fd) (D_Room_add_prop : DefM P w K mg base 3 "add_prop" C.R ["self", "size"] (sp_Room_add_prop K C)) : FnOk P w K mg base CX0 4 f fd ["room", "size"] (sp_do_prop K C) := by
  refine F.ok sc_do_prop (fun _ _ _ _ h => len_do_prop h) (fun cdv A outer s H vs Q E hr h => ⟨t_do_prop K C, ?_, rd_do_prop T h⟩)
  exact (pss_cons (ps_if (pt_not (pt_chain op_le op_le pe_int (pv 1) pe_int)) (pss_one (ps_ret (pe_lst (pa_cons (pe_un un_neg pe_int) pa_nil)))) pss_nil)
    (pss_cons (ps_if (pt_val (pe_fld (pv 0) rfl)) (pss_one (ps_ret (pe_lst (pa_cons (pe_un un_neg pe_int) pa_nil)))) pss_nil)
    (pss_cons (ps_if (pt_cmpR op_eq (pe_callB call_len_seq (by rfl) T.b_len PySem.boot_len (pa_cons (pe_fld (pv 0) rfl) pa_nil)) (pe_globI rfl T.g_PROPS) (nomark _)) (pss_one (ps_ret (pe_lst (pa_cons (pe_un un_neg pe_int) pa_nil)))) pss_nil)
    (pss_cons (ps_expr (pc_meth T.clR D_Room_add_prop (hr.mono (by decide)) (pv 0) (pa_cons (pv 1) pa_nil)))
    (pss_one (ps_ret (pe_lst (pa_cons pe_int (pa_cons (pe_op op_sub (pe_callB call_len_seq (by rfl) T.b_len PySem.boot_len (pa_cons (pe_fld (pv 0) rfl) pa_nil)) pe_int) pa_nil)))))))))
theorem rd_readings_are_right (T : Txt K mg C) {vs : List V} {H : Hp} {Q : VK} {E : XK} (h : sp_readings_are_right K C vs H Q E) : t_readings_are_right K C { nx := fun _ H' => Q .non H', rt := Q } (start N_readings_are_right vs) H := mSp_rd (fun ⟨r, rs⟩ us G hv hk => bd_readings_are_right T r rs hv hk) h
theorem ok_readings_are_right (T : Txt K mg C) {f : Addr} {fd : FuncData} (F : Fun K "readings_are_right" "readings_are_right" s_readings_are_right f fd)  : FnOk P w K mg base CX0 1 f fd ["room", "readings"] (sp_readings_are_right K C) := by
  refine F.ok sc_readings_are_right (fun _ _ _ _ h => len_readings_are_right h) (fun cdv A outer s H vs Q E hr h => ⟨t_readings_are_right K C, ?_, rd_readings_are_right T h⟩)
  exact (pss_cons (ps_if (pt_cmpR op_ne (pe_callB call_len_seq (by rfl) T.b_len PySem.boot_len (pa_cons (pv 1) pa_nil)) (pe_callB call_len_seq (by rfl) T.b_len PySem.boot_len (pa_cons (pe_fld (pv 0) rfl) pa_nil)) (nomark _)) (pss_one (ps_ret pe_bl)) pss_nil)
    (pss_cons (ps_for PassesOwn.never rfl (pi_list (pv 1)) (pg_name (i := 2) sc_readings_are_right.nd rfl (Or.inl rfl)) (pss_one (ps_if (pt_not (pt_chain op_le op_le (pe_un un_neg pe_int) (pv 2) pe_int)) (pss_one (ps_ret pe_bl)) pss_nil)))
    (pss_one (ps_ret pe_bl))))
theorem rd_stands (T : Txt K mg C) {vs : List V} {H : Hp} {Q : VK} {E : XK} (h : sp_stands K C vs H Q E) : t_stands K C { nx := fun _ H' => Q .non H', rt := Q } (start N_stands vs) H := mSp_rd (fun ⟨rows, p⟩ us G hv hk => bd_stands T rows p hv hk) h
theorem ok_stands (T : Txt K mg C) {f : Addr} {fd : FuncData} (F : Fun K "stands" "stands" s_stands f fd)  : FnOk P w K mg base CX0 1 f fd ["rows", "position"] (sp_stands K C) := by
  refine F.ok sc_stands (fun _ _ _ _ h => len_stands h) (fun cdv A outer s H vs Q E hr h => ⟨t_stands K C, ?_, rd_stands T h⟩)
  exact (pss_cons (ps_for PassesOwn.never rfl (pi_list (pv 0)) (pg_name (i := 2) sc_stands.nd rfl (Or.inl rfl)) (pss_one (ps_if (pt_cmpR op_in_seq (pv 1) (pv 2) (by rfl)) (pss_one (ps_ret pe_bl)) pss_nil)))
    (pss_one (ps_ret pe_bl)))
theorem rd_explains (T : Txt K mg C) {vs : List V} {H : Hp} {Q : VK} {E : XK} (h : sp_explains K C vs H Q E) : t_explains K C { nx := fun _ H' => Q .non H', rt := Q } (start N_explains vs) H := mSp_rd (fun ⟨r, p, fs, c⟩ us G hv hk => bd_explains T r p fs c hv hk) h
theorem ok_explains (T : Txt K mg C) {f : Addr} {fd : FuncData} (F : Fun K "explains" "explains" s_explains f fd) (D_sensors_of : Def P w K mg base 1 "sensors_of" ["room", "prop"] (sp_sensors_of K C)) (D_is_course : Def P w K mg base 2 "is_course" ["moves", "size", "course"] (sp_is_course K C)) (D_may_have : Def P w K mg base 3 "may_have" ["sensor", "fault", "now"] (sp_may_have K C)) (D_within : Def P w K mg base 1 "within" ["course", "allowed"] (sp_within K C)) (D_sight : Def P w K mg base 2 "sight" ["sensor", "fault", "size", "now"] (sp_sight K C)) : FnOk P w K mg base CX0 4 f fd ["room", "prop", "faults", "course"] (sp_explains K C) := by
  refine F.ok sc_explains (fun _ _ _ _ h => len_explains h) (fun cdv A outer s H vs Q E hr h => ⟨t_explains K C, ?_, rd_explains T h⟩)
  exact (pss_cons (ps_set (i := 4) sc_explains.nd rfl (Or.inl rfl) (pc D_sensors_of (hr.mono (by decide)) (by rfl) (pa_cons (pv 0) (pa_cons (pv 1) pa_nil))))
    (pss_cons (ps_set (i := 5) sc_explains.nd rfl (Or.inl rfl) (pe_fld (pe_ix ix_list (pe_fld (pv 0) rfl) (pv 1) (fun _ _ => rfl)) rfl))
    (pss_cons (ps_if (PW.pt (pw_or (pt_cmpR op_ne (pe_callB call_len_seq (by rfl) T.b_len PySem.boot_len (pa_cons (pv 2) pa_nil)) (pe_callB call_len_seq (by rfl) T.b_len PySem.boot_len (pa_cons (pv 4) pa_nil)) (nomark _)) (pw_or1 (pt_not (pt_val (pc D_is_course (hr.mono (by decide)) (by rfl) (pa_cons (pe_fld (pe_ix ix_list (pe_fld (pv 0) rfl) (pv 1) (fun _ _ => rfl)) rfl) (pa_cons (pv 5) (pa_cons (pv 3) pa_nil))))))))) (pss_one (ps_ret pe_bl)) pss_nil)
    (pss_cons (ps_for PassesOwn.never rfl (pi_zip (by rfl) T.b_zip (pa_cons (pv 4) (pa_cons (pv 2) pa_nil))) (pg_tup rfl (pgs_cons (pg_name (i := 6) sc_explains.nd rfl (Or.inl rfl)) (pgs_cons (pg_name (i := 7) sc_explains.nd rfl (Or.inl rfl)) pgs_nil))) (pss_cons (ps_if (pt_not (pt_val (pc D_may_have (hr.mono (by decide)) (by rfl) (pa_cons (pv 6) (pa_cons (pv 7) (pa_cons (pe_fld (pv 0) rfl) pa_nil)))))) (pss_one (ps_ret pe_bl)) pss_nil)
    (pss_one (ps_if (pt_not (pt_val (pc D_within (hr.mono (by decide)) (by rfl) (pa_cons (pv 3) (pa_cons (pc D_sight (hr.mono (by decide)) (by rfl) (pa_cons (pv 6) (pa_cons (pv 7) (pa_cons (pv 5) (pa_cons (pe_fld (pv 0) rfl) pa_nil))))) pa_nil))))) (pss_one (ps_ret pe_bl)) pss_nil))))
    (pss_one (ps_ret pe_bl))))))
theorem rd_say_ways (T : Txt K mg C) {vs : List V} {H : Hp} {Q : VK} {E : XK} (h : sp_say_ways K C vs H Q E) : t_say_ways K C { nx := fun _ H' => Q .non H', rt := Q } (start N_say_ways vs) H := mSp_rd (fun ⟨r, p⟩ us G hv hk => bd_say_ways T r p hv hk) h
theorem ok_say_ways (T : Txt K mg C) {f : Addr} {fd : FuncData} (F : Fun K "say_ways" "say_ways" s_say_ways f fd) (D_is_prop : Def P w K mg base 1 "is_prop" ["room", "prop"] (sp_is_prop K C)) (D_left_of : Def P w K mg base 9 "left_of" ["room", "prop"] (sp_left_of K C)) : FnOk P w K mg base CX0 10 f fd ["room", "prop"] (sp_say_ways K C) := by
  refine F.ok sc_say_ways (fun _ _ _ _ h => len_say_ways h) (fun cdv A outer s H vs Q E hr h => ⟨t_say_ways K C, ?_, rd_say_ways T h⟩)
  exact (pss_cons (ps_if (pt_not (pt_val (pc D_is_prop (hr.mono (by decide)) (by rfl) (pa_cons (pv 0) (pa_cons (pv 1) pa_nil))))) (pss_one (ps_ret (pe_lst (pa_cons (pe_un un_neg pe_int) pa_nil)))) pss_nil)
    (pss_cons (ps_if (pt_not (pt_val (pe_fld (pv 0) rfl))) (pss_one (ps_ret (pe_lst (pa_cons (pe_un un_neg pe_int) pa_nil)))) pss_nil)
    (pss_cons (ps_set (i := 2) sc_say_ways.nd rfl (Or.inl rfl) (pc D_left_of (hr.mono (by decide)) (by rfl) (pa_cons (pv 0) (pa_cons (pv 1) pa_nil))))
    (pss_cons (ps_set (i := 3) sc_say_ways.nd rfl (Or.inl rfl) (pe_lst (pa_cons pe_int (pa_cons (pe_callB call_len_seq (by rfl) T.b_len PySem.boot_len (pa_cons (pv 2) pa_nil)) pa_nil))))
    (pss_cons (ps_for PassesOwn.never rfl (pi_list (pv 2)) (pg_tup rfl (pgs_cons (pg_name (i := 4) sc_say_ways.nd rfl (Or.inl rfl)) (pgs_cons (pg_name (i := 5) sc_say_ways.nd rfl (Or.inl rfl)) pgs_nil))) (pss_one (ps_expr (pe_bm PySem.F.plainAttrs_list PySem.F.slot_list_extend PySem.F.type_list_extend mt_extend (pv 3) (pa_cons (pv 4) pa_nil)))))
    (pss_one (ps_ret (pv 3))))))))
theorem rd_reads_ahead (T : Txt K mg C) {vs : List V} {H : Hp} {Q : VK} {E : XK} (h : sp_reads_ahead K C vs H Q E) : t_reads_ahead K C { nx := fun _ H' => Q .non H', rt := Q } (start N_reads_ahead vs) H := mSp_rd (fun ⟨xs, v, told, now⟩ us G hv hk => bd_reads_ahead T xs v told now hv hk) h
theorem ok_reads_ahead (T : Txt K mg C) {f : Addr} {fd : FuncData} (F : Fun K "reads_ahead" "reads_ahead" s_reads_ahead f fd) (D_may_read : Def P w K mg base 3 "may_read" ["sensor", "fault", "been", "told", "turn", "now"] (sp_may_read K C)) : FnOk P w K mg base CX0 4 f fd ["sensors", "view", "told", "now"] (sp_reads_ahead K C) := by
  refine F.ok sc_reads_ahead (fun _ _ _ _ h => len_reads_ahead h) (fun cdv A outer s H vs Q E hr h => ⟨t_reads_ahead K C, ?_, rd_reads_ahead T h⟩)
  exact (pss_cons (ps_asg (pv 1) (pg_tup rfl (pgs_cons (pg_name (i := 4) sc_reads_ahead.nd rfl (Or.inl rfl)) (pgs_cons (pg_name (i := 5) sc_reads_ahead.nd rfl (Or.inl rfl)) pgs_nil))))
    (pss_cons (ps_set (i := 6) sc_reads_ahead.nd rfl (Or.inl rfl) (pe_lst pa_nil))
    (pss_cons (ps_for PassesOwn.never rfl (pi_range1 (by rfl) T.b_range (pa_cons (pe_callB call_len_seq (by rfl) T.b_len PySem.boot_len (pa_cons (pv 2) pa_nil)) pa_nil)) (pg_name (i := 7) sc_reads_ahead.nd rfl (Or.inl rfl)) (pss_one (ps_for PassesOwn.never rfl (pi_zip (by rfl) T.b_zip (pa_cons (pv 0) (pa_cons (pv 4) pa_nil))) (pg_tup rfl (pgs_cons (pg_name (i := 8) sc_reads_ahead.nd rfl (Or.inl rfl)) (pgs_cons (pg_name (i := 9) sc_reads_ahead.nd rfl (Or.inl rfl)) pgs_nil))) (pss_one (ps_expr (pe_bm PySem.F.plainAttrs_list PySem.F.slot_list_append PySem.F.type_list_append mt_append (pv 6) (pa_cons (pc D_may_read (hr.mono (by decide)) (by rfl) (pa_cons (pv 8) (pa_cons (pv 9) (pa_cons (pv 5) (pa_cons (pv 2) (pa_cons (pv 7) (pa_cons (pv 3) pa_nil))))))) pa_nil)))))))
    (pss_one (ps_ret (pv 6))))))
theorem rd_views_left (T : Txt K mg C) {vs : List V} {H : Hp} {Q : VK} {E : XK} (h : sp_views_left K C vs H Q E) : t_views_left K C { nx := fun _ H' => Q .non H', rt := Q } (start N_views_left vs) H := mSp_rd (fun ⟨r, p⟩ us G hv hk => bd_views_left T r p hv hk) h
theorem ok_views_left (T : Txt K mg C) {f : Addr} {fd : FuncData} (F : Fun K "views_left" "views_left" s_views_left f fd) (D_left_of : Def P w K mg base 9 "left_of" ["room", "prop"] (sp_left_of K C)) (D_seats : Def P w K mg base 3 "seats" ["moves", "allowed"] (sp_seats K C)) : FnOk P w K mg base CX0 10 f fd ["room", "prop"] (sp_views_left K C) := by
  refine F.ok sc_views_left (fun _ _ _ _ h => len_views_left h) (fun cdv A outer s H vs Q E hr h => ⟨t_views_left K C, ?_, rd_views_left T h⟩)
  exact (pss_cons (ps_set (i := 2) sc_views_left.nd rfl (Or.inr rfl) (pe_fld (pe_ix ix_list (pe_fld (pv 0) rfl) (pv 1) (fun _ _ => rfl)) rfl))
    (pss_one (ps_ret (pe_lc (own := [("faults", 3), ("allowed", 4)]) (g := (gTup K 2 (gCons (gName 3) (gCons (gName 4) gNil)))) rfl sc_views_left.nd (pi_list (pc D_left_of (hr.mono (by decide)) (by rfl) (pa_cons (pv 0) (pa_cons (pv 1) pa_nil)))) (blkOk_by (own := [("faults", 3), ("allowed", 4)]) (N := N_views_left) (sc := defScope s_views_left) (by decide +kernel)) (fun _ _ _ _ _ => (pg_tup rfl (pgs_cons (pg_name (i := 3) sc_views_left.nd rfl (Or.inl rfl)) (pgs_cons (pg_name (i := 4) sc_views_left.nd rfl (Or.inl rfl)) pgs_nil)))) (fun _ _ _ _ _ => pts_nil) (fun _ _ _ _ _ => (pe_tup (pa_cons (pv 3) (pa_cons (pc D_seats (hr.mono (by decide)) (by rfl) (pa_cons (pv 2) (pa_cons (pv 4) pa_nil))) pa_nil))))))))
theorem rd_settles_now (T : Txt K mg C) {vs : List V} {H : Hp} {Q : VK} {E : XK} (h : sp_settles_now K C vs H Q E) : t_settles_now K C { nx := fun _ H' => Q .non H', rt := Q } (start N_settles_now vs) H := mSp_rd (fun ⟨r, i, told⟩ us G hv hk => bd_settles_now T r i told hv hk) h
theorem ok_settles_now (T : Txt K mg C) {f : Addr} {fd : FuncData} (F : Fun K "settles_now" "settles_now" s_settles_now f fd) (D_views_left : Def P w K mg base 10 "views_left" ["room", "prop"] (sp_views_left K C)) (D_told_settle : Def P w K mg base 5 "told_settle" ["sensors", "place", "views", "told", "now"] (sp_told_settle K C)) (D_place_of : Def P w K mg base 1 "place_of" ["room", "number"] (sp_place_of K C)) (D_sensors_of : Def P w K mg base 1 "sensors_of" ["room", "prop"] (sp_sensors_of K C)) : FnOk P w K mg base CX0 11 f fd ["room", "number", "told"] (sp_settles_now K C) := by
  refine F.ok sc_settles_now (fun _ _ _ _ h => len_settles_now h) (fun cdv A outer s H vs Q E hr h => ⟨t_settles_now K C, ?_, rd_settles_now T h⟩)
  exact (pss_cons (ps_set (i := 3) sc_settles_now.nd rfl (Or.inl rfl) (pe_fld (pe_ix ix_list (pe_fld (pv 0) rfl) (pv 1) (fun _ _ => rfl)) rfl))
    (pss_cons (ps_set (i := 4) sc_settles_now.nd rfl (Or.inl rfl) (pc D_views_left (hr.mono (by decide)) (by rfl) (pa_cons (pv 0) (pa_cons (pv 3) pa_nil))))
    (pss_one (ps_ret (pc D_told_settle (hr.mono (by decide)) (by rfl) (pa_cons (pc D_sensors_of (hr.mono (by decide)) (by rfl) (pa_cons (pv 0) (pa_cons (pv 3) pa_nil))) (pa_cons (pc D_place_of (hr.mono (by decide)) (by rfl) (pa_cons (pv 0) (pa_cons (pv 1) pa_nil))) (pa_cons (pv 4) (pa_cons (pv 2) (pa_cons (pe_fld (pv 0) rfl) pa_nil))))))))))
theorem rd_goes_on (T : Txt K mg C) {vs : List V} {H : Hp} {Q : VK} {E : XK} (h : sp_goes_on K C vs H Q E) : t_goes_on K C { nx := fun _ H' => Q .non H', rt := Q } (start N_goes_on vs) H := mSp_rd (fun ⟨ms, als, rows⟩ us G hv hk => bd_goes_on T ms als rows hv hk) h
theorem ok_goes_on (T : Txt K mg C) {f : Addr} {fd : FuncData} (F : Fun K "goes_on" "goes_on" s_goes_on f fd) (D_exists : Def P w K mg base 3 "exists" ["moves", "allowed"] (sp_exists K C)) (D_overlap : Def P w K mg base 1 "overlap" ["one", "two"] (sp_overlap K C)) : FnOk P w K mg base CX0 4 f fd ["moves", "allowances", "rows"] (sp_goes_on K C) := by
  refine F.ok sc_goes_on (fun _ _ _ _ h => len_goes_on h) (fun cdv A outer s H vs Q E hr h => ⟨t_goes_on K C, ?_, rd_goes_on T h⟩)
  exact (pss_cons (ps_for PassesOwn.never rfl (pi_list (pv 1)) (pg_name (i := 3) sc_goes_on.nd rfl (Or.inl rfl)) (pss_one (ps_if (pt_val (pc D_exists (hr.mono (by decide)) (by rfl) (pa_cons (pv 0) (pa_cons (pc D_overlap (hr.mono (by decide)) (by rfl) (pa_cons (pv 3) (pa_cons (pv 2) pa_nil))) pa_nil)))) (pss_one (ps_ret pe_bl)) pss_nil)))
    (pss_one (ps_ret pe_bl)))
theorem rd_say_settle (T : Txt K mg C) {vs : List V} {H : Hp} {Q : VK} {E : XK} (h : sp_say_settle K C vs H Q E) : t_say_settle K C { nx := fun _ H' => Q .non H', rt := Q } (start N_say_settle vs) H := mSp_rd (fun ⟨r, i, n⟩ us G hv hk => bd_say_settle T r i n hv hk) h
theorem ok_say_settle (T : Txt K mg C) {f : Addr} {fd : FuncData} (F : Fun K "say_settle" "say_settle" s_say_settle f fd) (D_is_sensor : Def P w K mg base 1 "is_sensor" ["room", "number"] (sp_is_sensor K C)) (D_first_settling : Def P w K mg base 11 "first_settling" ["room", "number", "many"] (sp_first_settling K C)) : FnOk P w K mg base CX0 12 f fd ["room", "number", "many"] (sp_say_settle K C) := by
  refine F.ok sc_say_settle (fun _ _ _ _ h => len_say_settle h) (fun cdv A outer s H vs Q E hr h => ⟨t_say_settle K C, ?_, rd_say_settle T h⟩)
  exact (pss_cons (ps_if (PW.pt (pw_or (pt_not (pt_val (pc D_is_sensor (hr.mono (by decide)) (by rfl) (pa_cons (pv 0) (pa_cons (pv 1) pa_nil))))) (pw_or1 (pt_not (pt_chain op_le op_le pe_int (pv 2) pe_int))))) (pss_one (ps_ret (pe_lst (pa_cons (pe_un un_neg pe_int) pa_nil)))) pss_nil)
    (pss_cons (ps_if (pt_not (pt_val (pe_fld (pv 0) rfl))) (pss_one (ps_ret (pe_lst (pa_cons (pe_un un_neg pe_int) pa_nil)))) pss_nil)
    (pss_one (ps_ret (pe_op op_cat (pe_lst (pa_cons pe_int pa_nil)) (pc D_first_settling (hr.mono (by decide)) (by rfl) (pa_cons (pv 0) (pa_cons (pv 1) (pa_cons (pv 2) pa_nil)))))))))
theorem ok_act (T : Txt K mg C) {f : Addr} {fd : FuncData} (F : Fun K "act" "act" s_act f fd) (D_do_begin : Def P w K mg base 2 "do_begin" ["room", "most"] (sp_do_begin K C)) (D_do_prop : Def P w K mg base 4 "do_prop" ["room", "size"] (sp_do_prop K C)) (D_do_sensor : Def P w K mg base 4 "do_sensor" ["room", "prop", "error"] (sp_do_sensor K C)) (D_do_go : Def P w K mg base 2 "do_go" ["room"] (sp_do_go K C)) (D_do_tick : Def P w K mg base 9 "do_tick" ["room", "moves", "readings"] (sp_do_tick K C)) (D_do_mend : Def P w K mg base 2 "do_mend" ["room", "sensor"] (sp_do_mend K C)) (D_do_allow : Def P w K mg base 2 "do_allow" ["room", "most"] (sp_do_allow K C)) : FnOk P w K mg base CX0 10 f fd ["room", "call", "numbers", "rows"] (sp_act K C) := by
  refine F.ok sc_act (fun _ _ _ _ h => len_act h) (fun cdv A outer s H vs Q E hr h => ⟨t_act K C, ?_, rd_act T h⟩)
  exact (pss_cons (ps_if (pt_cmpR op_eq (pv 1) pe_int (nomark _)) (pss_one (ps_ret (pc D_do_begin (hr.mono (by decide)) (by rfl) (pa_cons (pv 0) (pa_cons (pe_ix ix_list (pv 2) pe_int (fun _ _ => rfl)) pa_nil))))) pss_nil)
    (pss_cons (ps_if (pt_cmpR op_eq (pv 1) pe_int (nomark _)) (pss_one (ps_ret (pc D_do_prop (hr.mono (by decide)) (by rfl) (pa_cons (pv 0) (pa_cons (pe_ix ix_list (pv 2) pe_int (fun _ _ => rfl)) pa_nil))))) pss_nil)
    (pss_cons (ps_if (pt_cmpR op_eq (pv 1) pe_int (nomark _)) (pss_one (ps_ret (pc D_do_sensor (hr.mono (by decide)) (by rfl) (pa_cons (pv 0) (pa_cons (pe_ix ix_list (pv 2) pe_int (fun _ _ => rfl)) (pa_cons (pe_ix ix_list (pv 2) pe_int (fun _ _ => rfl)) pa_nil)))))) pss_nil)
    (pss_cons (ps_if (pt_cmpR op_eq (pv 1) pe_int (nomark _)) (pss_one (ps_ret (pc D_do_go (hr.mono (by decide)) (by rfl) (pa_cons (pv 0) pa_nil)))) pss_nil)
    (pss_cons (ps_if (pt_cmpR op_eq (pv 1) pe_int (nomark _)) (pss_one (ps_ret (pc D_do_tick (hr.mono (by decide)) (by rfl) (pa_cons (pv 0) (pa_cons (pe_ix ix_list (pv 3) pe_int (fun _ _ => rfl)) (pa_cons (pe_ix ix_list (pv 3) pe_int (fun _ _ => rfl)) pa_nil)))))) pss_nil)
    (pss_cons (ps_if (pt_cmpR op_eq (pv 1) pe_int (nomark _)) (pss_one (ps_ret (pc D_do_mend (hr.mono (by decide)) (by rfl) (pa_cons (pv 0) (pa_cons (pe_ix ix_list (pv 2) pe_int (fun _ _ => rfl)) pa_nil))))) pss_nil)
    (pss_one (ps_ret (pc D_do_allow (hr.mono (by decide)) (by rfl) (pa_cons (pv 0) (pa_cons (pe_ix ix_list (pv 2) pe_int (fun _ _ => rfl)) pa_nil)))))))))))
theorem ok_rows_at (T : Txt K mg C) {f : Addr} {fd : FuncData} (F : Fun K "rows_at" "rows_at" s_rows_at f fd)  : FnOk P w K mg base CX0 1 f fd ["calls", "at", "many"] (sp_rows_at K C) := by
  refine F.ok sc_rows_at (fun _ _ _ _ h => len_rows_at h) (fun cdv A outer s H vs Q E hr h => ⟨t_rows_at K C, ?_, rd_rows_at T h⟩)
  exact (pss_cons (ps_set (i := 3) sc_rows_at.nd rfl (Or.inl rfl) (pe_lst pa_nil))
    (pss_cons (ps_for PassesOwn.never rfl (pi_range1 (by rfl) T.b_range (pa_cons (pv 2) pa_nil)) (pg_name (i := 4) sc_rows_at.nd rfl (Or.inl rfl)) (pss_cons (ps_set (i := 5) sc_rows_at.nd rfl (Or.inl rfl) (pe_ix ix_list (pv 0) (pv 1) (fun _ _ => rfl)))
    (pss_cons (ps_expr (pe_bm PySem.F.plainAttrs_list PySem.F.slot_list_append PySem.F.type_list_append mt_append (pv 3) (pa_cons (pe_slice sl_list (pv 0) (po_some (pe_op op_add (pv 1) pe_int)) (po_some (pe_op op_add (pe_op op_add (pv 1) pe_int) (pv 5)))) pa_nil)))
    (pss_one (ps_set (i := 1) sc_rows_at.nd rfl (Or.inl rfl) (pe_op op_add (pe_op op_add (pv 1) pe_int) (pv 5)))))))
    (pss_one (ps_ret (pe_tup (pa_cons (pv 3) (pa_cons (pv 1) pa_nil)))))))
end
end Sk
/-! part Dv3 -/
namespace Sk
open PySem PySem.Spec PyProof.Rows L2 Evl
theorem sc_Room_begin : FnScope N_Room_begin ["self", "most"] (defScope s_Room_begin) := ⟨rfl, rfl, rfl, by decide +kernel, rfl, by decide +kernel, by decide +kernel⟩
theorem sc_Room_step : FnScope N_Room_step ["self", "going", "seen"] (defScope s_Room_step) := ⟨rfl, rfl, rfl, by decide +kernel, rfl, by decide +kernel, by decide +kernel⟩
theorem sc_is_sensor : FnScope N_is_sensor ["room", "number"] (defScope s_is_sensor) := ⟨rfl, rfl, rfl, by decide +kernel, rfl, by decide +kernel, by decide +kernel⟩
theorem sc_comes : FnScope N_comes ["befores", "move", "position"] (defScope s_comes) := ⟨rfl, rfl, rfl, by decide +kernel, rfl, by decide +kernel, by decide +kernel⟩
theorem sc_seats : FnScope N_seats ["moves", "allowed"] (defScope s_seats) := ⟨rfl, rfl, rfl, by decide +kernel, rfl, by decide +kernel, by decide +kernel⟩
theorem sc_is_fault : FnScope N_is_fault ["number"] (defScope s_is_fault) := ⟨rfl, rfl, rfl, by decide +kernel, rfl, by decide +kernel, by decide +kernel⟩
theorem sc_options : FnScope N_options ["sensor", "now"] (defScope s_options) := ⟨rfl, rfl, rfl, by decide +kernel, rfl, by decide +kernel, by decide +kernel⟩
theorem sc_sight : FnScope N_sight ["sensor", "fault", "size", "now"] (defScope s_sight) := ⟨rfl, rfl, rfl, by decide +kernel, rfl, by decide +kernel, by decide +kernel⟩
theorem sc_widened : FnScope N_widened ["parts", "sensor", "size", "now", "most"] (defScope s_widened) := ⟨rfl, rfl, rfl, by decide +kernel, rfl, by decide +kernel, by decide +kernel⟩
theorem sc_fewest_each : FnScope N_fewest_each ["table"] (defScope s_fewest_each) := ⟨rfl, rfl, rfl, by decide +kernel, rfl, by decide +kernel, by decide +kernel⟩
theorem sc_all_left : FnScope N_all_left ["room"] (defScope s_all_left) := ⟨rfl, rfl, rfl, by decide +kernel, rfl, by decide +kernel, by decide +kernel⟩
theorem sc_do_sensor : FnScope N_do_sensor ["room", "prop", "error"] (defScope s_do_sensor) := ⟨rfl, rfl, rfl, by decide +kernel, rfl, by decide +kernel, by decide +kernel⟩
theorem sc_do_tick : FnScope N_do_tick ["room", "moves", "readings"] (defScope s_do_tick) := ⟨rfl, rfl, rfl, by decide +kernel, rfl, by decide +kernel, by decide +kernel⟩
theorem sc_say_where : FnScope N_say_where ["room", "prop", "tick"] (defScope s_say_where) := ⟨rfl, rfl, rfl, by decide +kernel, rfl, by decide +kernel, by decide +kernel⟩
theorem sc_say_check : FnScope N_say_check ["room", "prop", "faults", "course"] (defScope s_say_check) := ⟨rfl, rfl, rfl, by decide +kernel, rfl, by decide +kernel, by decide +kernel⟩
theorem sc_around : FnScope N_around ["sensor", "position"] (defScope s_around) := ⟨rfl, rfl, rfl, by decide +kernel, rfl, by decide +kernel, by decide +kernel⟩
theorem sc_share : FnScope N_share ["one", "two"] (defScope s_share) := ⟨rfl, rfl, rfl, by decide +kernel, rfl, by decide +kernel, by decide +kernel⟩
theorem sc_told_settle : FnScope N_told_settle ["sensors", "place", "views", "told", "now"] (defScope s_told_settle) := ⟨rfl, rfl, rfl, by decide +kernel, rfl, by decide +kernel, by decide +kernel⟩
theorem sc_first_settling : FnScope N_first_settling ["room", "number", "many"] (defScope s_first_settling) := ⟨rfl, rfl, rfl, by decide +kernel, rfl, by decide +kernel, by decide +kernel⟩
theorem sc_say_since : FnScope N_say_since ["room", "number"] (defScope s_say_since) := ⟨rfl, rfl, rfl, by decide +kernel, rfl, by decide +kernel, by decide +kernel⟩
theorem sc_told_are_right : FnScope N_told_are_right ["room", "number", "told"] (defScope s_told_are_right) := ⟨rfl, rfl, rfl, by decide +kernel, rfl, by decide +kernel, by decide +kernel⟩
theorem sc_ask_prop : FnScope N_ask_prop ["room", "call", "numbers", "rows"] (defScope s_ask_prop) := ⟨rfl, rfl, rfl, by decide +kernel, rfl, by decide +kernel, by decide +kernel⟩
theorem sc_answers : FnScope N_answers ["calls"] (defScope s_answers) := ⟨rfl, rfl, rfl, by decide +kernel, rfl, by decide +kernel, by decide +kernel⟩
section
variable {P : Program} {w : World} {K : PySem.W.Frag} {mg : Str → Option Value} {base : Heap} {C : Cs}
theorem ok_Room_begin (T : Txt K mg C) {f : Addr} {fd : FuncData} (F : Fun K "begin" "Room.begin" s_Room_begin f fd)  : FnOk P w K mg base CX0 1 f fd ["self", "most"] (sp_Room_begin K C) := by
  refine F.ok sc_Room_begin (fun _ _ _ _ h => len_Room_begin h) (fun cdv A outer s H vs Q E hr h => ⟨t_Room_begin K C, ?_, rd_Room_begin T h⟩)
  exact (pss_cons (ps_fld (pv 0) (pv 1) rfl)
    (pss_cons (ps_fld (pv 0) pe_bl rfl)
    (pss_cons (ps_fld (pv 0) pe_int rfl)
    (pss_cons (ps_fld (pv 0) (pe_lst pa_nil) rfl)
    (pss_one (ps_fld (pv 0) (pe_lst pa_nil) rfl))))))
theorem ok_Room_step (T : Txt K mg C) {f : Addr} {fd : FuncData} (F : Fun K "step" "Room.step" s_Room_step f fd)  : FnOk P w K mg base CX0 1 f fd ["self", "going", "seen"] (sp_Room_step K C) := by
  refine F.ok sc_Room_step (fun _ _ _ _ h => len_Room_step h) (fun cdv A outer s H vs Q E hr h => ⟨t_Room_step K C, ?_, rd_Room_step T h⟩)
  exact (pss_cons (ps_fldaug (pv 0) pe_int in_add)
    (pss_cons (ps_for PassesOwn.never rfl (pi_zip (by rfl) T.b_zip (pa_cons (pe_fld (pv 0) rfl) (pa_cons (pv 1) pa_nil))) (pg_tup rfl (pgs_cons (pg_name (i := 3) sc_Room_step.nd rfl (Or.inl rfl)) (pgs_cons (pg_name (i := 4) sc_Room_step.nd rfl (Or.inl rfl)) pgs_nil))) (pss_one (ps_expr (pe_bm PySem.F.plainAttrs_list PySem.F.slot_list_append PySem.F.type_list_append mt_append (pe_fld (pv 3) rfl) (pa_cons (pv 4) pa_nil)))))
    (pss_one (ps_for PassesOwn.never rfl (pi_zip (by rfl) T.b_zip (pa_cons (pe_fld (pv 0) rfl) (pa_cons (pv 2) pa_nil))) (pg_tup rfl (pgs_cons (pg_name (i := 5) sc_Room_step.nd rfl (Or.inl rfl)) (pgs_cons (pg_name (i := 6) sc_Room_step.nd rfl (Or.inl rfl)) pgs_nil))) (pss_one (ps_expr (pe_bm PySem.F.plainAttrs_list PySem.F.slot_list_append PySem.F.type_list_append mt_append (pe_fld (pv 5) rfl) (pa_cons (pv 6) pa_nil))))))))
theorem rd_is_sensor (T : Txt K mg C) {vs : List V} {H : Hp} {Q : VK} {E : XK} (h : sp_is_sensor K C vs H Q E) : t_is_sensor K C { nx := fun _ H' => Q .non H', rt := Q } (start N_is_sensor vs) H := mSp_rd (fun ⟨r, p⟩ us G hv hk => bd_is_sensor T r p hv hk) h
theorem ok_is_sensor (T : Txt K mg C) {f : Addr} {fd : FuncData} (F : Fun K "is_sensor" "is_sensor" s_is_sensor f fd)  : FnOk P w K mg base CX0 1 f fd ["room", "number"] (sp_is_sensor K C) := by
  refine F.ok sc_is_sensor (fun _ _ _ _ h => len_is_sensor h) (fun cdv A outer s H vs Q E hr h => ⟨t_is_sensor K C, ?_, rd_is_sensor T h⟩)
  exact (pss_one (ps_ret (pe_chain op_le op_lt pe_int (pv 1) (pe_callB call_len_seq (by rfl) T.b_len PySem.boot_len (pa_cons (pe_fld (pv 0) rfl) pa_nil)))))
theorem rd_comes (T : Txt K mg C) {vs : List V} {H : Hp} {Q : VK} {E : XK} (h : sp_comes K C vs H Q E) : t_comes K C { nx := fun _ H' => Q .non H', rt := Q } (start N_comes vs) H := mSp_rd (fun ⟨bs, m, p⟩ us G hv hk => bd_comes T bs m p hv hk) h
theorem ok_comes (T : Txt K mg C) {f : Addr} {fd : FuncData} (F : Fun K "comes" "comes" s_comes f fd)  : FnOk P w K mg base CX0 1 f fd ["befores", "move", "position"] (sp_comes K C) := by
  refine F.ok sc_comes (fun _ _ _ _ h => len_comes h) (fun cdv A outer s H vs Q E hr h => ⟨t_comes K C, ?_, rd_comes T h⟩)
  exact (pss_cons (ps_if (pt_cmpR op_eq (pv 1) (pe_globI rfl T.g_HELD) (nomark _)) (pss_one (ps_ret (pe_cmpR op_in_seq (pv 2) (pv 0) (by rfl)))) pss_nil)
    (pss_cons (ps_if (pt_cmpR op_eq (pv 1) (pe_globI rfl T.g_LOOSE_courses) (nomark _)) (pss_one (ps_ret (pe_cmpR op_gt (pe_callB call_len_seq (by rfl) T.b_len PySem.boot_len (pa_cons (pv 0) pa_nil)) pe_int (nomark _)))) pss_nil)
    (pss_one (ps_ret (pe_and (pe_cmpR op_gt (pe_callB call_len_seq (by rfl) T.b_len PySem.boot_len (pa_cons (pv 0) pa_nil)) pe_int (nomark _)) (pe_one (pe_cmpR op_eq (pv 2) (pv 1) (nomark _))))))))
theorem rd_seats (T : Txt K mg C) {vs : List V} {H : Hp} {Q : VK} {E : XK} (h : sp_seats K C vs H Q E) : t_seats K C { nx := fun _ H' => Q .non H', rt := Q } (start N_seats vs) H := mSp_rd (fun ⟨ms, al⟩ us G hv hk => bd_seats T ms al hv hk) h
theorem ok_seats (T : Txt K mg C) {f : Addr} {fd : FuncData} (F : Fun K "seats" "seats" s_seats f fd) (D_forward : Def P w K mg base 2 "forward" ["moves", "allowed"] (sp_forward K C)) (D_leads : Def P w K mg base 1 "leads" ["position", "move", "afters"] (sp_leads K C)) : FnOk P w K mg base CX0 3 f fd ["moves", "allowed"] (sp_seats K C) := by
  refine F.ok sc_seats (fun _ _ _ _ h => len_seats h) (fun cdv A outer s H vs Q E hr h => ⟨t_seats K C, ?_, rd_seats T h⟩)
  exact (pss_cons (ps_set (i := 2) sc_seats.nd rfl (Or.inl rfl) (pc D_forward (hr.mono (by decide)) (by rfl) (pa_cons (pv 0) (pa_cons (pv 1) pa_nil))))
    (pss_cons (ps_set (i := 3) sc_seats.nd rfl (Or.inl rfl) (pe_lst (pa_cons (pe_ix ix_list (pv 2) (pe_op op_sub (pe_callB call_len_seq (by rfl) T.b_len PySem.boot_len (pa_cons (pv 2) pa_nil)) pe_int) (fun _ _ => rfl)) pa_nil)))
    (pss_cons (ps_for PassesOwn.never rfl (pi_range3 (by rfl) T.b_range (pa_cons (pe_op op_sub (pe_callB call_len_seq (by rfl) T.b_len PySem.boot_len (pa_cons (pv 0) pa_nil)) pe_int) (pa_cons pe_int (pa_cons (pe_un un_neg pe_int) pa_nil)))) (pg_name (i := 4) sc_seats.nd rfl (Or.inr rfl)) (pss_cons (ps_set (i := 5) sc_seats.nd rfl (Or.inr rfl) (pe_ix ix_list (pv 3) (pe_op op_sub (pe_callB call_len_seq (by rfl) T.b_len PySem.boot_len (pa_cons (pv 3) pa_nil)) pe_int) (fun _ _ => rfl)))
    (pss_one (ps_expr (pe_bm PySem.F.plainAttrs_list PySem.F.slot_list_append PySem.F.type_list_append mt_append (pv 3) (pa_cons (pe_lc (own := [("position", 6)]) (g := (gName 6)) rfl sc_seats.nd (pi_list (pe_ix ix_list (pv 2) (pe_op op_sub (pv 4) pe_int) (fun _ _ => rfl))) (blkOk_by (own := [("position", 6)]) (N := N_seats) (sc := defScope s_seats) (by decide +kernel)) (fun _ _ _ _ _ => (pg_name (i := 6) sc_seats.nd rfl (Or.inl rfl))) (fun _ _ _ _ _ => (pts_one (pt_val (pc D_leads (hr.mono (by decide)) (by rfl) (pa_cons (pv 6) (pa_cons (pe_ix ix_list (pv 0) (pv 4) (fun _ _ => rfl)) (pa_cons (pv 5) pa_nil))))))) (fun _ _ _ _ _ => (pv 6))) pa_nil))))))
    (pss_one (ps_ret (pe_revL (pv 3)))))))
theorem rd_is_fault (T : Txt K mg C) {vs : List V} {H : Hp} {Q : VK} {E : XK} (h : sp_is_fault K C vs H Q E) : t_is_fault K C { nx := fun _ H' => Q .non H', rt := Q } (start N_is_fault vs) H := mSp_rd (fun n us G hv hk => bd_is_fault T n hv hk) h
theorem ok_is_fault (T : Txt K mg C) {f : Addr} {fd : FuncData} (F : Fun K "is_fault" "is_fault" s_is_fault f fd)  : FnOk P w K mg base CX0 1 f fd ["number"] (sp_is_fault K C) := by
  refine F.ok sc_is_fault (fun _ _ _ _ h => len_is_fault h) (fun cdv A outer s H vs Q E hr h => ⟨t_is_fault K C, ?_, rd_is_fault T h⟩)
  exact (pss_one (ps_ret (pe_or (pe_chain op_le op_le pe_int (pv 0) pe_int) (pe_one (pe_chain op_le op_le (pe_globI rfl T.g_STUCK) (pv 0) (pe_op op_add (pe_globI rfl T.g_STUCK) (pe_globI rfl T.g_LAST_sights)))))))
theorem rd_options (T : Txt K mg C) {vs : List V} {H : Hp} {Q : VK} {E : XK} (h : sp_options K C vs H Q E) : t_options K C { nx := fun _ H' => Q .non H', rt := Q } (start N_options vs) H := mSp_rd (fun ⟨x, now⟩ us G hv hk => bd_options T x now hv hk) h
theorem ok_options (T : Txt K mg C) {f : Addr} {fd : FuncData} (F : Fun K "options" "options" s_options f fd) (D_stuck_ticks : Def P w K mg base 3 "stuck_ticks" ["sensor", "now"] (sp_stuck_ticks K C)) : FnOk P w K mg base CX0 4 f fd ["sensor", "now"] (sp_options K C) := by
  refine F.ok sc_options (fun _ _ _ _ h => len_options h) (fun cdv A outer s H vs Q E hr h => ⟨t_options K C, ?_, rd_options T h⟩)
  exact (pss_cons (ps_set (i := 2) sc_options.nd rfl (Or.inl rfl) (pc D_stuck_ticks (hr.mono (by decide)) (by rfl) (pa_cons (pv 0) (pa_cons (pv 1) pa_nil))))
    (pss_cons (ps_if (pt_cmpR op_eq (pe_callB call_len_seq (by rfl) T.b_len PySem.boot_len (pa_cons (pv 2) pa_nil)) pe_int (nomark _)) (pss_one (ps_ret (pe_lst (pa_cons pe_int (pa_cons pe_int (pa_cons pe_int (pa_cons pe_int pa_nil))))))) pss_nil)
    (pss_one (ps_ret (pe_lst (pa_cons pe_int (pa_cons (pe_op op_add (pe_globI rfl T.g_STUCK) (pe_ix ix_list (pv 2) pe_int (fun _ _ => rfl))) (pa_cons pe_int (pa_cons pe_int (pa_cons pe_int pa_nil))))))))))
theorem rd_sight (T : Txt K mg C) {vs : List V} {H : Hp} {Q : VK} {E : XK} (h : sp_sight K C vs H Q E) : t_sight K C { nx := fun _ H' => Q .non H', rt := Q } (start N_sight vs) H := mSp_rd (fun ⟨x, f, size, now⟩ us G hv hk => bd_sight T x f size now hv hk) h
theorem ok_sight (T : Txt K mg C) {f : Addr} {fd : FuncData} (F : Fun K "sight" "sight" s_sight f fd) (D_reading_about : Def P w K mg base 1 "reading_about" ["sensor", "fault", "tick", "now"] (sp_reading_about K C)) (D_agrees : Def P w K mg base 1 "agrees" ["sensor", "reading", "position"] (sp_agrees K C)) : FnOk P w K mg base CX0 2 f fd ["sensor", "fault", "size", "now"] (sp_sight K C) := by
  refine F.ok sc_sight (fun _ _ _ _ h => len_sight h) (fun cdv A outer s H vs Q E hr h => ⟨t_sight K C, ?_, rd_sight T h⟩)
  exact (pss_cons (ps_set (i := 4) sc_sight.nd rfl (Or.inl rfl) (pe_lst pa_nil))
    (pss_cons (ps_for PassesOwn.never rfl (pi_range1 (by rfl) T.b_range (pa_cons (pe_op op_add (pv 3) pe_int) pa_nil)) (pg_name (i := 5) sc_sight.nd rfl (Or.inl rfl)) (pss_cons (ps_set (i := 6) sc_sight.nd rfl (Or.inr rfl) (pc D_reading_about (hr.mono (by decide)) (by rfl) (pa_cons (pv 0) (pa_cons (pv 1) (pa_cons (pv 5) (pa_cons (pv 3) pa_nil))))))
    (pss_one (ps_expr (pe_bm PySem.F.plainAttrs_list PySem.F.slot_list_append PySem.F.type_list_append mt_append (pv 4) (pa_cons (pe_lc (own := [("position", 7)]) (g := (gName 7)) rfl sc_sight.nd (pi_range1 (by rfl) T.b_range (pa_cons (pv 2) pa_nil)) (blkOk_by (own := [("position", 7)]) (N := N_sight) (sc := defScope s_sight) (by decide +kernel)) (fun _ _ _ _ _ => (pg_name (i := 7) sc_sight.nd rfl (Or.inl rfl))) (fun _ _ _ _ _ => (pts_one (pt_val (pc D_agrees (hr.mono (by decide)) (by rfl) (pa_cons (pv 0) (pa_cons (pv 6) (pa_cons (pv 7) pa_nil))))))) (fun _ _ _ _ _ => (pv 7))) pa_nil))))))
    (pss_one (ps_ret (pv 4)))))
theorem rd_widened (T : Txt K mg C) {vs : List V} {H : Hp} {Q : VK} {E : XK} (h : sp_widened K C vs H Q E) : t_widened K C { nx := fun _ H' => Q .non H', rt := Q } (start N_widened vs) H := mSp_rd (fun ⟨ps, x, size, now, most⟩ us G hv hk => bd_widened T ps x size now most hv hk) h
theorem ok_widened (T : Txt K mg C) {f : Addr} {fd : FuncData} (F : Fun K "widened" "widened" s_widened f fd) (D_options : Def P w K mg base 4 "options" ["sensor", "now"] (sp_options K C)) (D_sight : Def P w K mg base 2 "sight" ["sensor", "fault", "size", "now"] (sp_sight K C)) (D_count_faults : Def P w K mg base 1 "count_faults" ["faults"] (sp_count_faults K C)) (D_overlap : Def P w K mg base 1 "overlap" ["one", "two"] (sp_overlap K C)) : FnOk P w K mg base CX0 5 f fd ["parts", "sensor", "size", "now", "most"] (sp_widened K C) := by
  refine F.ok sc_widened (fun _ _ _ _ h => len_widened h) (fun cdv A outer s H vs Q E hr h => ⟨t_widened K C, ?_, rd_widened T h⟩)
  exact (pss_cons (ps_setLc (i := 5) (own := [("fault", 9)]) (g := (gName 9)) rfl sc_widened.nd rfl rfl (sw_true rfl rfl rfl (by decide +kernel)) (pi_list (pc D_options (hr.mono (by decide)) (by rfl) (pa_cons (pv 1) (pa_cons (pv 3) pa_nil)))) (blkOk_by (own := [("fault", 9)]) (N := N_widened) (sc := defScope s_widened) (by decide +kernel)) (fun _ _ _ _ _ => (pg_name (i := 9) sc_widened.nd rfl (Or.inl rfl))) (fun _ _ _ _ _ => pts_nil) (fun _ _ _ _ _ => (pe_tup (pa_cons (pv 9) (pa_cons (pc D_sight (hr.mono (by decide)) (by rfl) (pa_cons (pv 1) (pa_cons (pv 9) (pa_cons (pv 2) (pa_cons (pv 3) pa_nil))))) pa_nil)))))
    (pss_cons (ps_set (i := 6) sc_widened.nd rfl (Or.inl rfl) (pe_lst pa_nil))
    (pss_cons (ps_for PassesOwn.never rfl (pi_list (pv 0)) (pg_tup rfl (pgs_cons (pg_name (i := 7) sc_widened.nd rfl (Or.inl rfl)) (pgs_cons (pg_name (i := 8) sc_widened.nd rfl (Or.inl rfl)) pgs_nil))) (pss_one (ps_for PassesOwn.never rfl (pi_list (pv 5)) (pg_tup rfl (pgs_cons (pg_name (i := 9) sc_widened.nd rfl (Or.inl rfl)) (pgs_cons (pg_name (i := 10) sc_widened.nd rfl (Or.inl rfl)) pgs_nil))) (pss_cons (ps_set (i := 11) sc_widened.nd rfl (Or.inl rfl) (pe_op op_cat (pv 7) (pe_lst (pa_cons (pv 9) pa_nil))))
    (pss_one (ps_if (pt_cmpR op_le (pc D_count_faults (hr.mono (by decide)) (by rfl) (pa_cons (pv 11) pa_nil)) (pv 4) (nomark _)) (pss_one (ps_expr (pe_bm PySem.F.plainAttrs_list PySem.F.slot_list_append PySem.F.type_list_append mt_append (pv 6) (pa_cons (pe_tup (pa_cons (pv 11) (pa_cons (pc D_overlap (hr.mono (by decide)) (by rfl) (pa_cons (pv 8) (pa_cons (pv 10) pa_nil))) pa_nil))) pa_nil)))) pss_nil))))))
    (pss_one (ps_ret (pv 6))))))
theorem rd_fewest_each (T : Txt K mg C) {vs : List V} {H : Hp} {Q : VK} {E : XK} (h : sp_fewest_each K C vs H Q E) : t_fewest_each K C { nx := fun _ H' => Q .non H', rt := Q } (start N_fewest_each vs) H := mSp_rd (fun t us G hv hk => bd_fewest_each T t hv hk) h
theorem ok_fewest_each (T : Txt K mg C) {f : Addr} {fd : FuncData} (F : Fun K "fewest_each" "fewest_each" s_fewest_each f fd) (D_fewest_of : Def P w K mg base 2 "fewest_of" ["rows"] (sp_fewest_of K C)) : FnOk P w K mg base CX0 3 f fd ["table"] (sp_fewest_each K C) := by
  refine F.ok sc_fewest_each (fun _ _ _ _ h => len_fewest_each h) (fun cdv A outer s H vs Q E hr h => ⟨t_fewest_each K C, ?_, rd_fewest_each T h⟩)
  exact (pss_one (ps_ret (pe_lc (own := [("rows", 1)]) (g := (gName 1)) rfl sc_fewest_each.nd (pi_list (pv 0)) (blkOk_by (own := [("rows", 1)]) (N := N_fewest_each) (sc := defScope s_fewest_each) (by decide +kernel)) (fun _ _ _ _ _ => (pg_name (i := 1) sc_fewest_each.nd rfl (Or.inl rfl))) (fun _ _ _ _ _ => pts_nil) (fun _ _ _ _ _ => (pc D_fewest_of (hr.mono (by decide)) (by rfl) (pa_cons (pv 1) pa_nil))))))
theorem rd_all_left (T : Txt K mg C) {vs : List V} {H : Hp} {Q : VK} {E : XK} (h : sp_all_left K C vs H Q E) : t_all_left K C { nx := fun _ H' => Q .non H', rt := Q } (start N_all_left vs) H := mSp_rd (fun r us G hv hk => bd_all_left T r hv hk) h
theorem ok_all_left (T : Txt K mg C) {f : Addr} {fd : FuncData} (F : Fun K "all_left" "all_left" s_all_left f fd) (D_all_possible : Def P w K mg base 7 "all_possible" ["room"] (sp_all_possible K C)) (D_fewest_each : Def P w K mg base 3 "fewest_each" ["table"] (sp_fewest_each K C)) (D_something : Def P w K mg base 1 "something" ["few", "most"] (sp_something K C)) (D_at_most : Def P w K mg base 2 "at_most" ["rows", "limit"] (sp_at_most K C)) : FnOk P w K mg base CX0 8 f fd ["room"] (sp_all_left K C) := by
  refine F.ok sc_all_left (fun _ _ _ _ h => len_all_left h) (fun cdv A outer s H vs Q E hr h => ⟨t_all_left K C, ?_, rd_all_left T h⟩)
  exact (pss_cons (ps_set (i := 1) sc_all_left.nd rfl (Or.inl rfl) (pc D_all_possible (hr.mono (by decide)) (by rfl) (pa_cons (pv 0) pa_nil)))
    (pss_cons (ps_set (i := 2) sc_all_left.nd rfl (Or.inl rfl) (pc D_fewest_each (hr.mono (by decide)) (by rfl) (pa_cons (pv 1) pa_nil)))
    (pss_cons (ps_if (pt_not (pt_val (pc D_something (hr.mono (by decide)) (by rfl) (pa_cons (pv 2) (pa_cons (pe_fld (pv 0) rfl) pa_nil))))) (pss_one (ps_ret (pe_lc (own := [("rows", 4)]) (g := (gName 4)) rfl sc_all_left.nd (pi_list (pv 1)) (blkOk_by (own := [("rows", 4)]) (N := N_all_left) (sc := defScope s_all_left) (by decide +kernel)) (fun _ _ _ _ _ => (pg_name (i := 4) sc_all_left.nd rfl (Or.inl rfl))) (fun _ _ _ _ _ => pts_nil) (fun _ _ _ _ _ => (pe_lst pa_nil))))) pss_nil)
    (pss_cons (ps_set (i := 3) sc_all_left.nd rfl (Or.inr rfl) (pe_callB (cr_sum rfl) (by rfl) T.b_sum (by decide +kernel) (pa_cons (pv 2) pa_nil)))
    (pss_one (ps_ret (pe_lc (own := [("rows", 4), ("own", 5)]) (g := (gTup K 2 (gCons (gName 4) (gCons (gName 5) gNil)))) rfl sc_all_left.nd (pi_zip (by rfl) T.b_zip (pa_cons (pv 1) (pa_cons (pv 2) pa_nil))) (blkOk_by (own := [("rows", 4), ("own", 5)]) (N := N_all_left) (sc := defScope s_all_left) (by decide +kernel)) (fun _ _ _ _ _ => (pg_tup rfl (pgs_cons (pg_name (i := 4) sc_all_left.nd rfl (Or.inl rfl)) (pgs_cons (pg_name (i := 5) sc_all_left.nd rfl (Or.inl rfl)) pgs_nil)))) (fun _ _ _ _ _ => pts_nil) (fun _ _ _ _ _ => (pc D_at_most (hr.mono (by decide)) (by rfl) (pa_cons (pv 4) (pa_cons (pe_op op_sub (pe_fld (pv 0) rfl) (pe_op op_sub (pv 3) (pv 5))) pa_nil)))))))))))
theorem ok_do_sensor (T : Txt K mg C) {f : Addr} {fd : FuncData} (F : Fun K "do_sensor" "do_sensor" s_do_sensor f fd) (D_is_prop : Def P w K mg base 1 "is_prop" ["room", "prop"] (sp_is_prop K C)) (D_sensors_of : Def P w K mg base 1 "sensors_of" ["room", "prop"] (sp_sensors_of K C)) (D_Room_add_sensor : DefM P w K mg base 3 "add_sensor" C.R ["self", "prop", "error"] (sp_Room_add_sensor K C)) : FnOk P w K mg base CX0 4 f fd ["room", "prop", "error"] (sp_do_sensor K C) := by
  refine F.ok sc_do_sensor (fun _ _ _ _ h => len_do_sensor h) (fun cdv A outer s H vs Q E hr h => ⟨t_do_sensor K C, ?_, rd_do_sensor T h⟩)
  exact (pss_cons (ps_if (PW.pt (pw_or (pt_not (pt_val (pc D_is_prop (hr.mono (by decide)) (by rfl) (pa_cons (pv 0) (pa_cons (pv 1) pa_nil))))) (pw_or1 (pt_not (pt_chain op_le op_le pe_int (pv 2) pe_int))))) (pss_one (ps_ret (pe_lst (pa_cons (pe_un un_neg pe_int) pa_nil)))) pss_nil)
    (pss_cons (ps_if (pt_val (pe_fld (pv 0) rfl)) (pss_one (ps_ret (pe_lst (pa_cons (pe_un un_neg pe_int) pa_nil)))) pss_nil)
    (pss_cons (ps_if (PW.pt (pw_or (pt_cmpR op_eq (pe_callB call_len_seq (by rfl) T.b_len PySem.boot_len (pa_cons (pe_fld (pv 0) rfl) pa_nil)) (pe_globI rfl T.g_SENSORS) (nomark _)) (pw_or1 (pt_cmpR op_eq (pe_callB call_len_seq (by rfl) T.b_len PySem.boot_len (pa_cons (pc D_sensors_of (hr.mono (by decide)) (by rfl) (pa_cons (pv 0) (pa_cons (pv 1) pa_nil))) pa_nil)) (pe_globI rfl T.g_SENSORS_OF_ONE) (nomark _))))) (pss_one (ps_ret (pe_lst (pa_cons (pe_un un_neg pe_int) pa_nil)))) pss_nil)
    (pss_cons (ps_expr (pc_meth T.clR D_Room_add_sensor (hr.mono (by decide)) (pv 0) (pa_cons (pv 1) (pa_cons (pv 2) pa_nil))))
    (pss_one (ps_ret (pe_lst (pa_cons pe_int (pa_cons (pe_op op_sub (pe_callB call_len_seq (by rfl) T.b_len PySem.boot_len (pa_cons (pe_fld (pv 0) rfl) pa_nil)) pe_int) pa_nil)))))))))
theorem ok_do_tick (T : Txt K mg C) {f : Addr} {fd : FuncData} (F : Fun K "do_tick" "do_tick" s_do_tick f fd) (D_moves_are_right : Def P w K mg base 1 "moves_are_right" ["room", "moves"] (sp_moves_are_right K C)) (D_readings_are_right : Def P w K mg base 1 "readings_are_right" ["room", "readings"] (sp_readings_are_right K C)) (D_Room_step : DefM P w K mg base 1 "step" C.R ["self", "going", "seen"] (sp_Room_step K C)) (D_can_be : Def P w K mg base 8 "can_be" ["room"] (sp_can_be K C)) : FnOk P w K mg base CX0 9 f fd ["room", "moves", "readings"] (sp_do_tick K C) := by
  refine F.ok sc_do_tick (fun _ _ _ _ h => len_do_tick h) (fun cdv A outer s H vs Q E hr h => ⟨t_do_tick K C, ?_, rd_do_tick T h⟩)
  exact (pss_cons (ps_if (PW.pt (pw_or (pt_not (pt_val (pc D_moves_are_right (hr.mono (by decide)) (by rfl) (pa_cons (pv 0) (pa_cons (pv 1) pa_nil))))) (pw_or1 (pt_not (pt_val (pc D_readings_are_right (hr.mono (by decide)) (by rfl) (pa_cons (pv 0) (pa_cons (pv 2) pa_nil)))))))) (pss_one (ps_ret (pe_lst (pa_cons (pe_un un_neg pe_int) pa_nil)))) pss_nil)
    (pss_cons (ps_if (pt_not (pt_val (pe_fld (pv 0) rfl))) (pss_one (ps_ret (pe_lst (pa_cons (pe_un un_neg pe_int) pa_nil)))) pss_nil)
    (pss_cons (ps_if (pt_cmpR op_eq (pe_fld (pv 0) rfl) (pe_globI rfl T.g_LAST_acts) (nomark _)) (pss_one (ps_ret (pe_lst (pa_cons (pe_un un_neg pe_int) pa_nil)))) pss_nil)
    (pss_cons (ps_expr (pc_meth T.clR D_Room_step (hr.mono (by decide)) (pv 0) (pa_cons (pv 1) (pa_cons (pv 2) pa_nil))))
    (pss_one (ps_ret (pe_lst (pa_cons pe_int (pa_cons (pe_fld (pv 0) rfl) (pa_cons (pe_ifExp (pt_val (pc D_can_be (hr.mono (by decide)) (by rfl) (pa_cons (pv 0) pa_nil))) pe_int pe_int) pa_nil))))))))))
theorem rd_say_where (T : Txt K mg C) {vs : List V} {H : Hp} {Q : VK} {E : XK} (h : sp_say_where K C vs H Q E) : t_say_where K C { nx := fun _ H' => Q .non H', rt := Q } (start N_say_where vs) H := mSp_rd (fun ⟨r, p, t⟩ us G hv hk => bd_say_where T r p t hv hk) h
theorem ok_say_where (T : Txt K mg C) {f : Addr} {fd : FuncData} (F : Fun K "say_where" "say_where" s_say_where f fd) (D_is_prop : Def P w K mg base 1 "is_prop" ["room", "prop"] (sp_is_prop K C)) (D_left_of : Def P w K mg base 9 "left_of" ["room", "prop"] (sp_left_of K C)) (D_seats : Def P w K mg base 3 "seats" ["moves", "allowed"] (sp_seats K C)) (D_stands : Def P w K mg base 1 "stands" ["rows", "position"] (sp_stands K C)) : FnOk P w K mg base CX0 10 f fd ["room", "prop", "tick"] (sp_say_where K C) := by
  refine F.ok sc_say_where (fun _ _ _ _ h => len_say_where h) (fun cdv A outer s H vs Q E hr h => ⟨t_say_where K C, ?_, rd_say_where T h⟩)
  exact (pss_cons (ps_if (PW.pt (pw_or (pt_not (pt_val (pc D_is_prop (hr.mono (by decide)) (by rfl) (pa_cons (pv 0) (pa_cons (pv 1) pa_nil))))) (pw_or1 (pt_not (pt_chain op_le op_le pe_int (pv 2) (pe_fld (pv 0) rfl)))))) (pss_one (ps_ret (pe_lst (pa_cons (pe_un un_neg pe_int) pa_nil)))) pss_nil)
    (pss_cons (ps_if (pt_not (pt_val (pe_fld (pv 0) rfl))) (pss_one (ps_ret (pe_lst (pa_cons (pe_un un_neg pe_int) pa_nil)))) pss_nil)
    (pss_cons (ps_set (i := 3) sc_say_where.nd rfl (Or.inr rfl) (pe_fld (pe_ix ix_list (pe_fld (pv 0) rfl) (pv 1) (fun _ _ => rfl)) rfl))
    (pss_cons (ps_set (i := 4) sc_say_where.nd rfl (Or.inr rfl) (pe_lc (own := [("faults", 5), ("allowed", 6)]) (g := (gTup K 2 (gCons (gName 5) (gCons (gName 6) gNil)))) rfl sc_say_where.nd (pi_list (pc D_left_of (hr.mono (by decide)) (by rfl) (pa_cons (pv 0) (pa_cons (pv 1) pa_nil)))) (blkOk_by (own := [("faults", 5), ("allowed", 6)]) (N := N_say_where) (sc := defScope s_say_where) (by decide +kernel)) (fun _ _ _ _ _ => (pg_tup rfl (pgs_cons (pg_name (i := 5) sc_say_where.nd rfl (Or.inl rfl)) (pgs_cons (pg_name (i := 6) sc_say_where.nd rfl (Or.inl rfl)) pgs_nil)))) (fun _ _ _ _ _ => pts_nil) (fun _ _ _ _ _ => (pe_ix ix_list (pc D_seats (hr.mono (by decide)) (by rfl) (pa_cons (pv 3) (pa_cons (pv 6) pa_nil))) (pv 2) (fun _ _ => rfl)))))
    (pss_one (ps_ret (pe_op op_cat (pe_lst (pa_cons pe_int pa_nil)) (pe_lc (own := [("position", 7)]) (g := (gName 7)) rfl sc_say_where.nd (pi_range1 (by rfl) T.b_range (pa_cons (pe_fld (pe_ix ix_list (pe_fld (pv 0) rfl) (pv 1) (fun _ _ => rfl)) rfl) pa_nil)) (blkOk_by (own := [("position", 7)]) (N := N_say_where) (sc := defScope s_say_where) (by decide +kernel)) (fun _ _ _ _ _ => (pg_name (i := 7) sc_say_where.nd rfl (Or.inl rfl))) (fun _ _ _ _ _ => (pts_one (pt_val (pc D_stands (hr.mono (by decide)) (by rfl) (pa_cons (pv 4) (pa_cons (pv 7) pa_nil)))))) (fun _ _ _ _ _ => (pv 7))))))))))
theorem rd_say_check (T : Txt K mg C) {vs : List V} {H : Hp} {Q : VK} {E : XK} (h : sp_say_check K C vs H Q E) : t_say_check K C { nx := fun _ H' => Q .non H', rt := Q } (start N_say_check vs) H := mSp_rd (fun ⟨r, p, fs, c⟩ us G hv hk => bd_say_check T r p fs c hv hk) h
theorem ok_say_check (T : Txt K mg C) {f : Addr} {fd : FuncData} (F : Fun K "say_check" "say_check" s_say_check f fd) (D_is_prop : Def P w K mg base 1 "is_prop" ["room", "prop"] (sp_is_prop K C)) (D_is_fault : Def P w K mg base 1 "is_fault" ["number"] (sp_is_fault K C)) (D_count_faults : Def P w K mg base 1 "count_faults" ["faults"] (sp_count_faults K C)) (D_explains : Def P w K mg base 4 "explains" ["room", "prop", "faults", "course"] (sp_explains K C)) : FnOk P w K mg base CX0 5 f fd ["room", "prop", "faults", "course"] (sp_say_check K C) := by
  refine F.ok sc_say_check (fun _ _ _ _ h => len_say_check h) (fun cdv A outer s H vs Q E hr h => ⟨t_say_check K C, ?_, rd_say_check T h⟩)
  exact (pss_cons (ps_if (pt_not (pt_val (pc D_is_prop (hr.mono (by decide)) (by rfl) (pa_cons (pv 0) (pa_cons (pv 1) pa_nil))))) (pss_one (ps_ret (pe_lst (pa_cons (pe_un un_neg pe_int) pa_nil)))) pss_nil)
    (pss_cons (ps_if (PW.pt (pw_or (pt_not (pt_val (pe_callB (cr_all rfl) (by rfl) T.b_all (by decide +kernel) (pa_cons (pe_lc (own := [("fault", 4)]) (g := (gName 4)) rfl sc_say_check.nd (pi_list (pv 2)) (blkOk_by (own := [("fault", 4)]) (N := N_say_check) (sc := defScope s_say_check) (by decide +kernel)) (fun _ _ _ _ _ => (pg_name (i := 4) sc_say_check.nd rfl (Or.inl rfl))) (fun _ _ _ _ _ => pts_nil) (fun _ _ _ _ _ => (pc D_is_fault (hr.mono (by decide)) (by rfl) (pa_cons (pv 4) pa_nil)))) pa_nil)))) (pw_or1 (pt_not (pt_val (pe_callB (cr_all rfl) (by rfl) T.b_all (by decide +kernel) (pa_cons (pe_lc (own := [("position", 5)]) (g := (gName 5)) rfl sc_say_check.nd (pi_list (pv 3)) (blkOk_by (own := [("position", 5)]) (N := N_say_check) (sc := defScope s_say_check) (by decide +kernel)) (fun _ _ _ _ _ => (pg_name (i := 5) sc_say_check.nd rfl (Or.inl rfl))) (fun _ _ _ _ _ => pts_nil) (fun _ _ _ _ _ => (pe_chain op_le op_le pe_int (pv 5) pe_int))) pa_nil))))))) (pss_one (ps_ret (pe_lst (pa_cons (pe_un un_neg pe_int) pa_nil)))) pss_nil)
    (pss_cons (ps_if (pt_not (pt_val (pe_fld (pv 0) rfl))) (pss_one (ps_ret (pe_lst (pa_cons (pe_un un_neg pe_int) pa_nil)))) pss_nil)
    (pss_one (ps_ret (pe_lst (pa_cons pe_int (pa_cons (pe_ifExp (pt_val (pc D_explains (hr.mono (by decide)) (by rfl) (pa_cons (pv 0) (pa_cons (pv 1) (pa_cons (pv 2) (pa_cons (pv 3) pa_nil)))))) pe_int pe_int) (pa_cons (pc D_count_faults (hr.mono (by decide)) (by rfl) (pa_cons (pv 2) pa_nil)) pa_nil)))))))))
theorem rd_around (T : Txt K mg C) {vs : List V} {H : Hp} {Q : VK} {E : XK} (h : sp_around K C vs H Q E) : t_around K C { nx := fun _ H' => Q .non H', rt := Q } (start N_around vs) H := mSp_rd (fun ⟨x, p⟩ us G hv hk => bd_around T x p hv hk) h
theorem ok_around (T : Txt K mg C) {f : Addr} {fd : FuncData} (F : Fun K "around" "around" s_around f fd)  : FnOk P w K mg base CX0 1 f fd ["sensor", "position"] (sp_around K C) := by
  refine F.ok sc_around (fun _ _ _ _ h => len_around h) (fun cdv A outer s H vs Q E hr h => ⟨t_around K C, ?_, rd_around T h⟩)
  exact (pss_one (ps_ret (pe_tup (pa_cons (pe_callB (call_max2 rfl) (by rfl) T.b_max (by decide +kernel) (pa_cons pe_int (pa_cons (pe_op op_sub (pv 1) (pe_fld (pv 0) rfl)) pa_nil))) (pa_cons (pe_op op_add (pv 1) (pe_fld (pv 0) rfl)) pa_nil)))))
theorem rd_share (T : Txt K mg C) {vs : List V} {H : Hp} {Q : VK} {E : XK} (h : sp_share K C vs H Q E) : t_share K C { nx := fun _ H' => Q .non H', rt := Q } (start N_share vs) H := mSp_rd (fun ⟨a, b⟩ us G hv hk => bd_share T a b hv hk) h
theorem ok_share (T : Txt K mg C) {f : Addr} {fd : FuncData} (F : Fun K "share" "share" s_share f fd)  : FnOk P w K mg base CX0 1 f fd ["one", "two"] (sp_share K C) := by
  refine F.ok sc_share (fun _ _ _ _ h => len_share h) (fun cdv A outer s H vs Q E hr h => ⟨t_share K C, ?_, rd_share T h⟩)
  exact (pss_cons (ps_for PassesOwn.never rfl (pi_list (pv 0)) (pg_tup rfl (pgs_cons (pg_name (i := 2) sc_share.nd rfl (Or.inl rfl)) (pgs_cons (pg_name (i := 3) sc_share.nd rfl (Or.inl rfl)) pgs_nil))) (pss_one (ps_for PassesOwn.never rfl (pi_list (pv 1)) (pg_tup rfl (pgs_cons (pg_name (i := 4) sc_share.nd rfl (Or.inl rfl)) (pgs_cons (pg_name (i := 5) sc_share.nd rfl (Or.inl rfl)) pgs_nil))) (pss_one (ps_if (PW.pt (pw_and (pt_cmpR op_le (pv 2) (pv 5) (nomark _)) (pw_and1 (pt_cmpR op_le (pv 4) (pv 3) (nomark _))))) (pss_one (ps_ret pe_bl)) pss_nil)))))
    (pss_one (ps_ret pe_bl)))
theorem rd_told_settle (T : Txt K mg C) {vs : List V} {H : Hp} {Q : VK} {E : XK} (h : sp_told_settle K C vs H Q E) : t_told_settle K C { nx := fun _ H' => Q .non H', rt := Q } (start N_told_settle vs) H := mSp_rd (fun ⟨xs, place, vs, told, now⟩ us G hv hk => bd_told_settle T xs place vs told now hv hk) h
theorem ok_told_settle (T : Txt K mg C) {f : Addr} {fd : FuncData} (F : Fun K "told_settle" "told_settle" s_told_settle f fd) (D_reads_ahead : Def P w K mg base 4 "reads_ahead" ["sensors", "view", "told", "now"] (sp_reads_ahead K C)) (D_none_alike : Def P w K mg base 3 "none_alike" ["ones", "twos"] (sp_none_alike K C)) : FnOk P w K mg base CX0 5 f fd ["sensors", "place", "views", "told", "now"] (sp_told_settle K C) := by
  refine F.ok sc_told_settle (fun _ _ _ _ h => len_told_settle h) (fun cdv A outer s H vs Q E hr h => ⟨t_told_settle K C, ?_, rd_told_settle T h⟩)
  exact (pss_cons (ps_setLc (i := 5) (own := [("view", 7)]) (g := (gName 7)) rfl sc_told_settle.nd rfl rfl (sw_true rfl rfl rfl (by decide +kernel)) (pi_list (pv 2)) (blkOk_by (own := [("view", 7)]) (N := N_told_settle) (sc := defScope s_told_settle) (by decide +kernel)) (fun _ _ _ _ _ => (pg_name (i := 7) sc_told_settle.nd rfl (Or.inl rfl))) (fun _ _ _ _ _ => (pts_one (pt_cmpR op_eq (pe_ix ix_list (pe_ix ix_tup (pv 7) pe_int (fun _ _ => rfl)) (pv 1) (fun _ _ => rfl)) pe_int (nomark _)))) (fun _ _ _ _ _ => (pc D_reads_ahead (hr.mono (by decide)) (by rfl) (pa_cons (pv 0) (pa_cons (pv 7) (pa_cons (pv 3) (pa_cons (pv 4) pa_nil)))))))
    (pss_cons (ps_setLc (i := 6) (own := [("view", 7)]) (g := (gName 7)) rfl sc_told_settle.nd rfl rfl (sw_true rfl rfl rfl (by decide +kernel)) (pi_list (pv 2)) (blkOk_by (own := [("view", 7)]) (N := N_told_settle) (sc := defScope s_told_settle) (by decide +kernel)) (fun _ _ _ _ _ => (pg_name (i := 7) sc_told_settle.nd rfl (Or.inl rfl))) (fun _ _ _ _ _ => (pts_one (pt_cmpR op_ne (pe_ix ix_list (pe_ix ix_tup (pv 7) pe_int (fun _ _ => rfl)) (pv 1) (fun _ _ => rfl)) pe_int (nomark _)))) (fun _ _ _ _ _ => (pc D_reads_ahead (hr.mono (by decide)) (by rfl) (pa_cons (pv 0) (pa_cons (pv 7) (pa_cons (pv 3) (pa_cons (pv 4) pa_nil)))))))
    (pss_one (ps_ret (pc D_none_alike (hr.mono (by decide)) (by rfl) (pa_cons (pv 5) (pa_cons (pv 6) pa_nil)))))))
theorem rd_first_settling (T : Txt K mg C) {vs : List V} {H : Hp} {Q : VK} {E : XK} (h : sp_first_settling K C vs H Q E) : t_first_settling K C { nx := fun _ H' => Q .non H', rt := Q } (start N_first_settling vs) H := mSp_rd (fun ⟨r, i, n⟩ us G hv hk => bd_first_settling T r i n hv hk) h
theorem ok_first_settling (T : Txt K mg C) {f : Addr} {fd : FuncData} (F : Fun K "first_settling" "first_settling" s_first_settling f fd) (D_sensors_of : Def P w K mg base 1 "sensors_of" ["room", "prop"] (sp_sensors_of K C)) (D_place_of : Def P w K mg base 1 "place_of" ["room", "number"] (sp_place_of K C)) (D_views_left : Def P w K mg base 10 "views_left" ["room", "prop"] (sp_views_left K C)) (D_candidates : Def P w K mg base 2 "candidates" ["size", "many"] (sp_candidates K C)) (D_told_settle : Def P w K mg base 5 "told_settle" ["sensors", "place", "views", "told", "now"] (sp_told_settle K C)) : FnOk P w K mg base CX0 11 f fd ["room", "number", "many"] (sp_first_settling K C) := by
  refine F.ok sc_first_settling (fun _ _ _ _ h => len_first_settling h) (fun cdv A outer s H vs Q E hr h => ⟨t_first_settling K C, ?_, rd_first_settling T h⟩)
  exact (pss_cons (ps_set (i := 3) sc_first_settling.nd rfl (Or.inl rfl) (pe_fld (pe_ix ix_list (pe_fld (pv 0) rfl) (pv 1) (fun _ _ => rfl)) rfl))
    (pss_cons (ps_set (i := 4) sc_first_settling.nd rfl (Or.inl rfl) (pc D_sensors_of (hr.mono (by decide)) (by rfl) (pa_cons (pv 0) (pa_cons (pv 3) pa_nil))))
    (pss_cons (ps_set (i := 5) sc_first_settling.nd rfl (Or.inl rfl) (pc D_place_of (hr.mono (by decide)) (by rfl) (pa_cons (pv 0) (pa_cons (pv 1) pa_nil))))
    (pss_cons (ps_set (i := 6) sc_first_settling.nd rfl (Or.inl rfl) (pc D_views_left (hr.mono (by decide)) (by rfl) (pa_cons (pv 0) (pa_cons (pv 3) pa_nil))))
    (pss_cons (ps_for PassesOwn.never rfl (pi_list (pc D_candidates (hr.mono (by decide)) (by rfl) (pa_cons (pe_fld (pe_ix ix_list (pe_fld (pv 0) rfl) (pv 3) (fun _ _ => rfl)) rfl) (pa_cons (pv 2) pa_nil)))) (pg_name (i := 7) sc_first_settling.nd rfl (Or.inl rfl)) (pss_one (ps_if (pt_val (pc D_told_settle (hr.mono (by decide)) (by rfl) (pa_cons (pv 4) (pa_cons (pv 5) (pa_cons (pv 6) (pa_cons (pv 7) (pa_cons (pe_fld (pv 0) rfl) pa_nil))))))) (pss_one (ps_ret (pe_op op_cat (pe_lst (pa_cons pe_int pa_nil)) (pv 7)))) pss_nil)))
    (pss_one (ps_ret (pe_lst (pa_cons pe_int pa_nil)))))))))
theorem rd_say_since (T : Txt K mg C) {vs : List V} {H : Hp} {Q : VK} {E : XK} (h : sp_say_since K C vs H Q E) : t_say_since K C { nx := fun _ H' => Q .non H', rt := Q } (start N_say_since vs) H := mSp_rd (fun ⟨r, i⟩ us G hv hk => bd_say_since T r i hv hk) h
theorem ok_say_since (T : Txt K mg C) {f : Addr} {fd : FuncData} (F : Fun K "say_since" "say_since" s_say_since f fd) (D_is_sensor : Def P w K mg base 1 "is_sensor" ["room", "number"] (sp_is_sensor K C)) (D_place_of : Def P w K mg base 1 "place_of" ["room", "number"] (sp_place_of K C)) (D_left_of : Def P w K mg base 9 "left_of" ["room", "prop"] (sp_left_of K C)) (D_stuck_ticks : Def P w K mg base 3 "stuck_ticks" ["sensor", "now"] (sp_stuck_ticks K C)) (D_sight : Def P w K mg base 2 "sight" ["sensor", "fault", "size", "now"] (sp_sight K C)) (D_goes_on : Def P w K mg base 4 "goes_on" ["moves", "allowances", "rows"] (sp_goes_on K C)) : FnOk P w K mg base CX0 10 f fd ["room", "number"] (sp_say_since K C) := by
  refine F.ok sc_say_since (fun _ _ _ _ h => len_say_since h) (fun cdv A outer s H vs Q E hr h => ⟨t_say_since K C, ?_, rd_say_since T h⟩)
  exact (pss_cons (ps_if (pt_not (pt_val (pc D_is_sensor (hr.mono (by decide)) (by rfl) (pa_cons (pv 0) (pa_cons (pv 1) pa_nil))))) (pss_one (ps_ret (pe_lst (pa_cons (pe_un un_neg pe_int) pa_nil)))) pss_nil)
    (pss_cons (ps_if (pt_not (pt_val (pe_fld (pv 0) rfl))) (pss_one (ps_ret (pe_lst (pa_cons (pe_un un_neg pe_int) pa_nil)))) pss_nil)
    (pss_cons (ps_set (i := 2) sc_say_since.nd rfl (Or.inl rfl) (pe_ix ix_list (pe_fld (pv 0) rfl) (pv 1) (fun _ _ => rfl)))
    (pss_cons (ps_set (i := 3) sc_say_since.nd rfl (Or.inr rfl) (pc D_place_of (hr.mono (by decide)) (by rfl) (pa_cons (pv 0) (pa_cons (pv 1) pa_nil))))
    (pss_cons (ps_set (i := 4) sc_say_since.nd rfl (Or.inl rfl) (pe_ix ix_list (pe_fld (pv 0) rfl) (pe_fld (pv 2) rfl) (fun _ _ => rfl)))
    (pss_cons (ps_setLc (i := 5) (own := [("faults", 9), ("allowed", 10)]) (g := (gTup K 2 (gCons (gName 9) (gCons (gName 10) gNil)))) rfl sc_say_since.nd rfl rfl (sw_true rfl rfl rfl (by decide +kernel)) (pi_list (pc D_left_of (hr.mono (by decide)) (by rfl) (pa_cons (pv 0) (pa_cons (pe_fld (pv 2) rfl) pa_nil)))) (blkOk_by (own := [("faults", 9), ("allowed", 10)]) (N := N_say_since) (sc := defScope s_say_since) (by decide +kernel)) (fun _ _ _ _ _ => (pg_tup rfl (pgs_cons (pg_name (i := 9) sc_say_since.nd rfl (Or.inl rfl)) (pgs_cons (pg_name (i := 10) sc_say_since.nd rfl (Or.inl rfl)) pgs_nil)))) (fun _ _ _ _ _ => (pts_one (pt_cmpR op_ge (pe_ix ix_list (pv 9) (pv 3) (fun _ _ => rfl)) (pe_globI rfl T.g_STUCK) (nomark _)))) (fun _ _ _ _ _ => (pv 10)))
    (pss_cons (ps_set (i := 6) sc_say_since.nd rfl (Or.inl rfl) (pe_lst (pa_cons pe_int pa_nil)))
    (pss_cons (ps_for PassesOwn.never rfl (pi_list (pc D_stuck_ticks (hr.mono (by decide)) (by rfl) (pa_cons (pv 2) (pa_cons (pe_fld (pv 0) rfl) pa_nil)))) (pg_name (i := 7) sc_say_since.nd rfl (Or.inl rfl)) (pss_cons (ps_set (i := 8) sc_say_since.nd rfl (Or.inl rfl) (pc D_sight (hr.mono (by decide)) (by rfl) (pa_cons (pv 2) (pa_cons (pe_op op_add (pe_globI rfl T.g_STUCK) (pv 7)) (pa_cons (pe_fld (pv 4) rfl) (pa_cons (pe_fld (pv 0) rfl) pa_nil))))))
    (pss_one (ps_if (pt_val (pc D_goes_on (hr.mono (by decide)) (by rfl) (pa_cons (pe_fld (pv 4) rfl) (pa_cons (pv 5) (pa_cons (pv 8) pa_nil))))) (pss_one (ps_expr (pe_bm PySem.F.plainAttrs_list PySem.F.slot_list_append PySem.F.type_list_append mt_append (pv 6) (pa_cons (pv 7) pa_nil)))) pss_nil))))
    (pss_one (ps_ret (pv 6)))))))))))
theorem rd_told_are_right (T : Txt K mg C) {vs : List V} {H : Hp} {Q : VK} {E : XK} (h : sp_told_are_right K C vs H Q E) : t_told_are_right K C { nx := fun _ H' => Q .non H', rt := Q } (start N_told_are_right vs) H := mSp_rd (fun ⟨r, i, told⟩ us G hv hk => bd_told_are_right T r i told hv hk) h
theorem ok_told_are_right (T : Txt K mg C) {f : Addr} {fd : FuncData} (F : Fun K "told_are_right" "told_are_right" s_told_are_right f fd)  : FnOk P w K mg base CX0 1 f fd ["room", "number", "told"] (sp_told_are_right K C) := by
  refine F.ok sc_told_are_right (fun _ _ _ _ h => len_told_are_right h) (fun cdv A outer s H vs Q E hr h => ⟨t_told_are_right K C, ?_, rd_told_are_right T h⟩)
  exact (pss_cons (ps_set (i := 3) sc_told_are_right.nd rfl (Or.inl rfl) (pe_fld (pe_ix ix_list (pe_fld (pv 0) rfl) (pe_fld (pe_ix ix_list (pe_fld (pv 0) rfl) (pv 1) (fun _ _ => rfl)) rfl) (fun _ _ => rfl)) rfl))
    (pss_cons (ps_if (pt_cmpR op_gt (pe_callB call_len_seq (by rfl) T.b_len PySem.boot_len (pa_cons (pv 2) pa_nil)) pe_int (nomark _)) (pss_one (ps_ret pe_bl)) pss_nil)
    (pss_cons (ps_for PassesOwn.never rfl (pi_list (pv 2)) (pg_name (i := 4) sc_told_are_right.nd rfl (Or.inl rfl)) (pss_one (ps_if (pt_not (pt_chain op_le op_lt pe_int (pv 4) (pv 3))) (pss_one (ps_ret pe_bl)) pss_nil)))
    (pss_one (ps_ret pe_bl)))))
theorem ok_ask_prop (T : Txt K mg C) {f : Addr} {fd : FuncData} (F : Fun K "ask_prop" "ask_prop" s_ask_prop f fd) (D_say_where : Def P w K mg base 10 "say_where" ["room", "prop", "tick"] (sp_say_where K C)) (D_say_fewest : Def P w K mg base 8 "say_fewest" ["room"] (sp_say_fewest K C)) (D_say_explain : Def P w K mg base 10 "say_explain" ["room", "prop"] (sp_say_explain K C)) (D_say_check : Def P w K mg base 5 "say_check" ["room", "prop", "faults", "course"] (sp_say_check K C)) (D_say_vote : Def P w K mg base 2 "say_vote" ["room", "prop"] (sp_say_vote K C)) (D_say_state : Def P w K mg base 1 "say_state" ["room"] (sp_say_state K C)) (D_say_ways : Def P w K mg base 10 "say_ways" ["room", "prop"] (sp_say_ways K C)) : FnOk P w K mg base CX0 11 f fd ["room", "call", "numbers", "rows"] (sp_ask_prop K C) := by
  refine F.ok sc_ask_prop (fun _ _ _ _ h => len_ask_prop h) (fun cdv A outer s H vs Q E hr h => ⟨t_ask_prop K C, ?_, rd_ask_prop T h⟩)
  exact (pss_cons (ps_if (pt_cmpR op_eq (pv 1) pe_int (nomark _)) (pss_one (ps_ret (pc D_say_where (hr.mono (by decide)) (by rfl) (pa_cons (pv 0) (pa_cons (pe_ix ix_list (pv 2) pe_int (fun _ _ => rfl)) (pa_cons (pe_ix ix_list (pv 2) pe_int (fun _ _ => rfl)) pa_nil)))))) pss_nil)
    (pss_cons (ps_if (pt_cmpR op_eq (pv 1) pe_int (nomark _)) (pss_one (ps_ret (pc D_say_fewest (hr.mono (by decide)) (by rfl) (pa_cons (pv 0) pa_nil)))) pss_nil)
    (pss_cons (ps_if (pt_cmpR op_eq (pv 1) pe_int (nomark _)) (pss_one (ps_ret (pc D_say_explain (hr.mono (by decide)) (by rfl) (pa_cons (pv 0) (pa_cons (pe_ix ix_list (pv 2) pe_int (fun _ _ => rfl)) pa_nil))))) pss_nil)
    (pss_cons (ps_if (pt_cmpR op_eq (pv 1) pe_int (nomark _)) (pss_one (ps_ret (pc D_say_check (hr.mono (by decide)) (by rfl) (pa_cons (pv 0) (pa_cons (pe_ix ix_list (pv 2) pe_int (fun _ _ => rfl)) (pa_cons (pe_ix ix_list (pv 3) pe_int (fun _ _ => rfl)) (pa_cons (pe_ix ix_list (pv 3) pe_int (fun _ _ => rfl)) pa_nil))))))) pss_nil)
    (pss_cons (ps_if (pt_cmpR op_eq (pv 1) pe_int (nomark _)) (pss_one (ps_ret (pc D_say_vote (hr.mono (by decide)) (by rfl) (pa_cons (pv 0) (pa_cons (pe_ix ix_list (pv 2) pe_int (fun _ _ => rfl)) pa_nil))))) pss_nil)
    (pss_cons (ps_if (pt_cmpR op_eq (pv 1) pe_int (nomark _)) (pss_one (ps_ret (pc D_say_state (hr.mono (by decide)) (by rfl) (pa_cons (pv 0) pa_nil)))) pss_nil)
    (pss_one (ps_ret (pc D_say_ways (hr.mono (by decide)) (by rfl) (pa_cons (pv 0) (pa_cons (pe_ix ix_list (pv 2) pe_int (fun _ _ => rfl)) pa_nil)))))))))))
theorem ok_answers (T : Txt K mg C) {f : Addr} {fd : FuncData} (F : Fun K "answers" "answers" s_answers f fd) (D_Room_init : DefC P w K mg base 1 "Room" C.R ["self"] (sp_Room_init K C)) (D_rows_at : Def P w K mg base 1 "rows_at" ["calls", "at", "many"] (sp_rows_at K C)) (D_answer_of : Def P w K mg base 14 "answer_of" ["room", "call", "numbers", "rows"] (sp_answer_of K C)) : FnOk P w K mg base CX0 15 f fd ["calls"] (sp_answers K C) := by
  refine F.ok sc_answers (fun _ _ _ _ h => len_answers h) (fun cdv A outer s H vs Q E hr h => ⟨t_answers K C, ?_, rd_answers T h⟩)
  exact (pss_cons (ps_set (i := 1) sc_answers.nd rfl (Or.inl rfl) (pc_make0 D_Room_init (hr.mono (by decide)) rfl))
    (pss_cons (ps_set (i := 2) sc_answers.nd rfl (Or.inl rfl) (pe_lst pa_nil))
    (pss_cons (ps_set (i := 3) sc_answers.nd rfl (Or.inl rfl) pe_int)
    (pss_cons (ps_while PassesOwn.never (pt_cmpR op_lt (pv 3) (pe_callB call_len_seq (by rfl) T.b_len PySem.boot_len (pa_cons (pv 0) pa_nil)) (nomark _)) (pss_cons (ps_set (i := 4) sc_answers.nd rfl (Or.inl rfl) (pe_ix ix_list (pv 0) (pv 3) (fun _ _ => rfl)))
    (pss_cons (ps_set (i := 5) sc_answers.nd rfl (Or.inl rfl) (pe_op op_add (pe_op op_add (pv 3) pe_int) (pe_ix ix_tup (pe_glob rfl T.g_NUMBERS rfl) (pv 4) (fun _ _ => rfl))))
    (pss_cons (ps_set (i := 6) sc_answers.nd rfl (Or.inl rfl) (pe_slice sl_list (pv 0) (po_some (pe_op op_add (pv 3) pe_int)) (po_some (pv 5))))
    (pss_cons (ps_asg (pc D_rows_at (hr.mono (by decide)) (by rfl) (pa_cons (pv 0) (pa_cons (pv 5) (pa_cons (pe_ix ix_tup (pe_glob rfl T.g_ROWS rfl) (pv 4) (fun _ _ => rfl)) pa_nil)))) (pg_tup rfl (pgs_cons (pg_name (i := 7) sc_answers.nd rfl (Or.inl rfl)) (pgs_cons (pg_name (i := 3) sc_answers.nd rfl (Or.inl rfl)) pgs_nil))))
    (pss_cons (ps_set (i := 8) sc_answers.nd rfl (Or.inl rfl) (pc D_answer_of (hr.mono (by decide)) (by rfl) (pa_cons (pv 1) (pa_cons (pv 4) (pa_cons (pv 6) (pa_cons (pv 7) pa_nil))))))
    (pss_cons (ps_expr (pe_bm PySem.F.plainAttrs_list PySem.F.slot_list_append PySem.F.type_list_append mt_append (pv 2) (pa_cons (pe_callB call_len_seq (by rfl) T.b_len PySem.boot_len (pa_cons (pv 8) pa_nil)) pa_nil)))
    (pss_one (ps_expr (pe_bm PySem.F.plainAttrs_list PySem.F.slot_list_extend PySem.F.type_list_extend mt_extend (pv 2) (pa_cons (pv 8) pa_nil)))))))))))
    (pss_one (ps_ret (pv 2)))))))
end
end Sk
/-! part End -/
namespace Sk
open PySem PySem.Spec PyProof.Rows L2 Evl
def tInts : List Value → List Nat → Bool
  | [], [] => true
  | .int i _ :: r, n :: l => decide (i = (n : Int)) && tInts r l
  | _, _ => false
theorem tInts_vals : ∀ {us : List Value} {l : List Nat}, tInts us l = true → Vals (l.map fun (n : Nat) => V.int (n : Int)) us
  | [], [], _ => .nil
  | .int i t :: r, n :: l, h => by
    have h2 : (decide (i = (n : Int)) && tInts r l) = true := h
    rw [Bool.and_eq_true] at h2
    exact .cons ⟨t, by rw [of_decide_eq_true h2.1]⟩ (tInts_vals h2.2)
theorem tup_at {K : PySem.W.Frag} {a : Addr} {od : Option Addr} {its : Array Value} {n : Nat} {sl : Array (Option Value)} {l : List Nat} (h : K.lookup a = some ⟨.type "tuple", od, .seq its n, sl⟩) (hs : its.size ≤ sizeLine) (hv : tInts its.toList l = true) : ∀ H, SqT K H a (l.map fun (n : Nat) => V.int (n : Int)) :=
  fun H => .inr ⟨_, its, n, h, rfl, rfl, hs, tInts_vals hv⟩
theorem fun_at {K : PySem.W.Frag} {x qual : Str} {st : Stmt} {f : Addr} {oc : Value} {od an : Option Addr} {osl : Array (Option Value)} {kV doc pm cdv ct : Value} (l : K.lookup f = some ⟨oc, od, .func (PySem.W.fnOf x qual (defArgs st) (defBody st) (defScope st) .none kV doc pm an cdv ct), osl⟩)
    (c : PySem.W.codeIn K cdv qual = true) (k : PySem.W.keepIn K (.ref f) = true) : ∃ fd, Fun K x qual st f fd := ⟨_, fun_mk l c k⟩
def spAns (K : PySem.W.Frag) : Sp := sp_answers K ⟨0, 0, 0, 0, 0⟩
theorem all_mk {P : Program} {w : World} {K : PySem.W.Frag} {h : Heap} {mg : Str → Option Value} {fa cP cS cR cNUMBERS cROWS : Addr} {f_Prop_init f_Sensor_init f_Room_init f_Room_begin f_Room_add_prop f_Room_add_sensor f_Room_go f_Room_step f_Room_mend f_Room_allow f_is_prop f_is_sensor f_sensors_of f_place_of f_goes f_comes f_leads f_forward f_exists f_seats f_least_course f_is_course f_within f_is_fault f_readings_from f_can_stick f_stuck_ticks f_options f_may_have f_reading_about f_agrees f_sight f_whole f_overlap f_count_faults f_widened f_possible f_all_possible f_fewest_of f_fewest_each f_something f_can_be f_at_most f_all_left f_left_of f_do_begin f_do_prop f_do_sensor f_do_go f_moves_are_right f_readings_are_right f_do_tick f_do_mend f_do_allow f_stands f_say_where f_say_fewest f_say_explain f_explains f_say_check f_say_vote f_say_state f_say_ways f_around f_stuck_reads f_may_read f_reads_ahead f_share f_alike f_none_alike f_views_left f_told_settle f_longer_rows f_candidates f_settles_now f_first_settling f_place_in_five f_say_blame f_goes_on f_say_since f_never_fine f_say_sure f_say_settle f_told_are_right f_say_settles f_say_reads f_act f_ask_prop f_ask_sensor f_answer_of f_rows_at f_answers : Addr} {t_LOOSE_room t_NOTHING_room t_HELD t_LOOSE_courses t_STUCK t_LAST_sights t_NOTHING_sights t_NONE t_LAST_acts t_PROPS t_SENSORS t_SENSORS_OF_ONE t_GREATEST : _}
    (X : K.In h) (G : h.Ns mainGlobals mg) (hfa : mg "answers" = some (.ref fa))
    (c_P : PySem.W.nsIn K mainGlobals "Prop" = some (some (.ref cP)))
    (pg_P : PySem.W.plainGet K cP Str.empty = true)
    (hd_P : PySem.W.hasDictIn K cP = true)
    (po_P : PySem.W.plainOver K cP = true)
    (sa_P : PySem.W.findIn K (.ref cP) "__setattr__" = some (some (.builtin "object.__setattr__")))
    (mk_P : PySem.W.makesIn K cP = true)
    (kc_P : PySem.W.keepIn K (.ref cP) = true)
    (c_S : PySem.W.nsIn K mainGlobals "Sensor" = some (some (.ref cS)))
    (pg_S : PySem.W.plainGet K cS Str.empty = true)
    (hd_S : PySem.W.hasDictIn K cS = true)
    (po_S : PySem.W.plainOver K cS = true)
    (sa_S : PySem.W.findIn K (.ref cS) "__setattr__" = some (some (.builtin "object.__setattr__")))
    (mk_S : PySem.W.makesIn K cS = true)
    (kc_S : PySem.W.keepIn K (.ref cS) = true)
    (c_R : PySem.W.nsIn K mainGlobals "Room" = some (some (.ref cR)))
    (pg_R : PySem.W.plainGet K cR Str.empty = true)
    (hd_R : PySem.W.hasDictIn K cR = true)
    (po_R : PySem.W.plainOver K cR = true)
    (sa_R : PySem.W.findIn K (.ref cR) "__setattr__" = some (some (.builtin "object.__setattr__")))
    (mk_R : PySem.W.makesIn K cR = true)
    (kc_R : PySem.W.keepIn K (.ref cR) = true)
    (n_P_size : PySem.W.findIn K (.ref cP) "size" = some none)
    (n_P_moves : PySem.W.findIn K (.ref cP) "moves" = some none)
    (n_S_prop : PySem.W.findIn K (.ref cS) "prop" = some none)
    (n_S_error : PySem.W.findIn K (.ref cS) "error" = some none)
    (n_S_first : PySem.W.findIn K (.ref cS) "first" = some none)
    (n_S_readings : PySem.W.findIn K (.ref cS) "readings" = some none)
    (n_R_most : PySem.W.findIn K (.ref cR) "most" = some none)
    (n_R_begun : PySem.W.findIn K (.ref cR) "begun" = some none)
    (n_R_now : PySem.W.findIn K (.ref cR) "now" = some none)
    (n_R_props : PySem.W.findIn K (.ref cR) "props" = some none)
    (n_R_sensors : PySem.W.findIn K (.ref cR) "sensors" = some none)
    (b_len : PySem.W.nsIn K mainGlobals "len" = some none)
    (b_abs : PySem.W.nsIn K mainGlobals "abs" = some none)
    (b_max : PySem.W.nsIn K mainGlobals "max" = some none)
    (b_min : PySem.W.nsIn K mainGlobals "min" = some none)
    (b_sum : PySem.W.nsIn K mainGlobals "sum" = some none)
    (b_all : PySem.W.nsIn K mainGlobals "all" = some none)
    (b_sorted : PySem.W.nsIn K mainGlobals "sorted" = some none)
    (b_range : PySem.W.nsIn K mainGlobals "range" = some none)
    (b_zip : PySem.W.nsIn K mainGlobals "zip" = some none)
    (b_list : PySem.W.nsIn K mainGlobals "list" = some none)
    (g_LOOSE_room : PySem.W.nsIn K mainGlobals "LOOSE_room" = some (some (.int (-2) t_LOOSE_room)))
    (g_NOTHING_room : PySem.W.nsIn K mainGlobals "NOTHING_room" = some (some (.int (-1) t_NOTHING_room)))
    (g_HELD : PySem.W.nsIn K mainGlobals "HELD" = some (some (.int (-1) t_HELD)))
    (g_LOOSE_courses : PySem.W.nsIn K mainGlobals "LOOSE_courses" = some (some (.int (-2) t_LOOSE_courses)))
    (g_STUCK : PySem.W.nsIn K mainGlobals "STUCK" = some (some (.int (100) t_STUCK)))
    (g_LAST_sights : PySem.W.nsIn K mainGlobals "LAST_sights" = some (some (.int (24) t_LAST_sights)))
    (g_NOTHING_sights : PySem.W.nsIn K mainGlobals "NOTHING_sights" = some (some (.int (-1) t_NOTHING_sights)))
    (g_NONE : PySem.W.nsIn K mainGlobals "NONE" = some (some (.int (-1) t_NONE)))
    (g_LAST_acts : PySem.W.nsIn K mainGlobals "LAST_acts" = some (some (.int (24) t_LAST_acts)))
    (g_PROPS : PySem.W.nsIn K mainGlobals "PROPS" = some (some (.int (4) t_PROPS)))
    (g_SENSORS : PySem.W.nsIn K mainGlobals "SENSORS" = some (some (.int (8) t_SENSORS)))
    (g_SENSORS_OF_ONE : PySem.W.nsIn K mainGlobals "SENSORS_OF_ONE" = some (some (.int (4) t_SENSORS_OF_ONE)))
    (g_GREATEST : PySem.W.nsIn K mainGlobals "GREATEST" = some (some (.int (1000) t_GREATEST)))
    (g_NUMBERS : PySem.W.nsIn K mainGlobals "NUMBERS" = some (some (.ref cNUMBERS)))
    (t_NUMBERS : ∀ H, SqT K H cNUMBERS (Mi.nums.map fun (n : Nat) => V.int (n : Int)))
    (g_ROWS : PySem.W.nsIn K mainGlobals "ROWS" = some (some (.ref cROWS)))
    (t_ROWS : ∀ H, SqT K H cROWS (Mi.rws.map fun (n : Nat) => V.int (n : Int)))
    (a_Prop_init : PySem.W.findIn K (.ref cP) "__init__" = some (some (.ref f_Prop_init)))
    (i_Prop_init : PySem.W.isFn K (.ref f_Prop_init) = true)
    (F_Prop_init : ∃ fd, Fun K "__init__" "Prop.__init__" s_Prop_init f_Prop_init fd)
    (a_Sensor_init : PySem.W.findIn K (.ref cS) "__init__" = some (some (.ref f_Sensor_init)))
    (i_Sensor_init : PySem.W.isFn K (.ref f_Sensor_init) = true)
    (F_Sensor_init : ∃ fd, Fun K "__init__" "Sensor.__init__" s_Sensor_init f_Sensor_init fd)
    (a_Room_init : PySem.W.findIn K (.ref cR) "__init__" = some (some (.ref f_Room_init)))
    (i_Room_init : PySem.W.isFn K (.ref f_Room_init) = true)
    (F_Room_init : ∃ fd, Fun K "__init__" "Room.__init__" s_Room_init f_Room_init fd)
    (a_Room_begin : PySem.W.findIn K (.ref cR) "begin" = some (some (.ref f_Room_begin)))
    (i_Room_begin : PySem.W.isFn K (.ref f_Room_begin) = true)
    (F_Room_begin : ∃ fd, Fun K "begin" "Room.begin" s_Room_begin f_Room_begin fd)
    (a_Room_add_prop : PySem.W.findIn K (.ref cR) "add_prop" = some (some (.ref f_Room_add_prop)))
    (i_Room_add_prop : PySem.W.isFn K (.ref f_Room_add_prop) = true)
    (F_Room_add_prop : ∃ fd, Fun K "add_prop" "Room.add_prop" s_Room_add_prop f_Room_add_prop fd)
    (a_Room_add_sensor : PySem.W.findIn K (.ref cR) "add_sensor" = some (some (.ref f_Room_add_sensor)))
    (i_Room_add_sensor : PySem.W.isFn K (.ref f_Room_add_sensor) = true)
    (F_Room_add_sensor : ∃ fd, Fun K "add_sensor" "Room.add_sensor" s_Room_add_sensor f_Room_add_sensor fd)
    (a_Room_go : PySem.W.findIn K (.ref cR) "go" = some (some (.ref f_Room_go)))
    (i_Room_go : PySem.W.isFn K (.ref f_Room_go) = true)
    (F_Room_go : ∃ fd, Fun K "go" "Room.go" s_Room_go f_Room_go fd)
    (a_Room_step : PySem.W.findIn K (.ref cR) "step" = some (some (.ref f_Room_step)))
    (i_Room_step : PySem.W.isFn K (.ref f_Room_step) = true)
    (F_Room_step : ∃ fd, Fun K "step" "Room.step" s_Room_step f_Room_step fd)
    (a_Room_mend : PySem.W.findIn K (.ref cR) "mend" = some (some (.ref f_Room_mend)))
    (i_Room_mend : PySem.W.isFn K (.ref f_Room_mend) = true)
    (F_Room_mend : ∃ fd, Fun K "mend" "Room.mend" s_Room_mend f_Room_mend fd)
    (a_Room_allow : PySem.W.findIn K (.ref cR) "allow" = some (some (.ref f_Room_allow)))
    (i_Room_allow : PySem.W.isFn K (.ref f_Room_allow) = true)
    (F_Room_allow : ∃ fd, Fun K "allow" "Room.allow" s_Room_allow f_Room_allow fd)
    (a_is_prop : PySem.W.nsIn K mainGlobals "is_prop" = some (some (.ref f_is_prop)))
    (F_is_prop : ∃ fd, Fun K "is_prop" "is_prop" s_is_prop f_is_prop fd)
    (a_is_sensor : PySem.W.nsIn K mainGlobals "is_sensor" = some (some (.ref f_is_sensor)))
    (F_is_sensor : ∃ fd, Fun K "is_sensor" "is_sensor" s_is_sensor f_is_sensor fd)
    (a_sensors_of : PySem.W.nsIn K mainGlobals "sensors_of" = some (some (.ref f_sensors_of)))
    (F_sensors_of : ∃ fd, Fun K "sensors_of" "sensors_of" s_sensors_of f_sensors_of fd)
    (a_place_of : PySem.W.nsIn K mainGlobals "place_of" = some (some (.ref f_place_of)))
    (F_place_of : ∃ fd, Fun K "place_of" "place_of" s_place_of f_place_of fd)
    (a_goes : PySem.W.nsIn K mainGlobals "goes" = some (some (.ref f_goes)))
    (F_goes : ∃ fd, Fun K "goes" "goes" s_goes f_goes fd)
    (a_comes : PySem.W.nsIn K mainGlobals "comes" = some (some (.ref f_comes)))
    (F_comes : ∃ fd, Fun K "comes" "comes" s_comes f_comes fd)
    (a_leads : PySem.W.nsIn K mainGlobals "leads" = some (some (.ref f_leads)))
    (F_leads : ∃ fd, Fun K "leads" "leads" s_leads f_leads fd)
    (a_forward : PySem.W.nsIn K mainGlobals "forward" = some (some (.ref f_forward)))
    (F_forward : ∃ fd, Fun K "forward" "forward" s_forward f_forward fd)
    (a_exists : PySem.W.nsIn K mainGlobals "exists" = some (some (.ref f_exists)))
    (F_exists : ∃ fd, Fun K "exists" "exists" s_exists f_exists fd)
    (a_seats : PySem.W.nsIn K mainGlobals "seats" = some (some (.ref f_seats)))
    (F_seats : ∃ fd, Fun K "seats" "seats" s_seats f_seats fd)
    (a_least_course : PySem.W.nsIn K mainGlobals "least_course" = some (some (.ref f_least_course)))
    (F_least_course : ∃ fd, Fun K "least_course" "least_course" s_least_course f_least_course fd)
    (a_is_course : PySem.W.nsIn K mainGlobals "is_course" = some (some (.ref f_is_course)))
    (F_is_course : ∃ fd, Fun K "is_course" "is_course" s_is_course f_is_course fd)
    (a_within : PySem.W.nsIn K mainGlobals "within" = some (some (.ref f_within)))
    (F_within : ∃ fd, Fun K "within" "within" s_within f_within fd)
    (a_is_fault : PySem.W.nsIn K mainGlobals "is_fault" = some (some (.ref f_is_fault)))
    (F_is_fault : ∃ fd, Fun K "is_fault" "is_fault" s_is_fault f_is_fault fd)
    (a_readings_from : PySem.W.nsIn K mainGlobals "readings_from" = some (some (.ref f_readings_from)))
    (F_readings_from : ∃ fd, Fun K "readings_from" "readings_from" s_readings_from f_readings_from fd)
    (a_can_stick : PySem.W.nsIn K mainGlobals "can_stick" = some (some (.ref f_can_stick)))
    (F_can_stick : ∃ fd, Fun K "can_stick" "can_stick" s_can_stick f_can_stick fd)
    (a_stuck_ticks : PySem.W.nsIn K mainGlobals "stuck_ticks" = some (some (.ref f_stuck_ticks)))
    (F_stuck_ticks : ∃ fd, Fun K "stuck_ticks" "stuck_ticks" s_stuck_ticks f_stuck_ticks fd)
    (a_options : PySem.W.nsIn K mainGlobals "options" = some (some (.ref f_options)))
    (F_options : ∃ fd, Fun K "options" "options" s_options f_options fd)
    (a_may_have : PySem.W.nsIn K mainGlobals "may_have" = some (some (.ref f_may_have)))
    (F_may_have : ∃ fd, Fun K "may_have" "may_have" s_may_have f_may_have fd)
    (a_reading_about : PySem.W.nsIn K mainGlobals "reading_about" = some (some (.ref f_reading_about)))
    (F_reading_about : ∃ fd, Fun K "reading_about" "reading_about" s_reading_about f_reading_about fd)
    (a_agrees : PySem.W.nsIn K mainGlobals "agrees" = some (some (.ref f_agrees)))
    (F_agrees : ∃ fd, Fun K "agrees" "agrees" s_agrees f_agrees fd)
    (a_sight : PySem.W.nsIn K mainGlobals "sight" = some (some (.ref f_sight)))
    (F_sight : ∃ fd, Fun K "sight" "sight" s_sight f_sight fd)
    (a_whole : PySem.W.nsIn K mainGlobals "whole" = some (some (.ref f_whole)))
    (F_whole : ∃ fd, Fun K "whole" "whole" s_whole f_whole fd)
    (a_overlap : PySem.W.nsIn K mainGlobals "overlap" = some (some (.ref f_overlap)))
    (F_overlap : ∃ fd, Fun K "overlap" "overlap" s_overlap f_overlap fd)
    (a_count_faults : PySem.W.nsIn K mainGlobals "count_faults" = some (some (.ref f_count_faults)))
    (F_count_faults : ∃ fd, Fun K "count_faults" "count_faults" s_count_faults f_count_faults fd)
    (a_widened : PySem.W.nsIn K mainGlobals "widened" = some (some (.ref f_widened)))
    (F_widened : ∃ fd, Fun K "widened" "widened" s_widened f_widened fd)
    (a_possible : PySem.W.nsIn K mainGlobals "possible" = some (some (.ref f_possible)))
    (F_possible : ∃ fd, Fun K "possible" "possible" s_possible f_possible fd)
    (a_all_possible : PySem.W.nsIn K mainGlobals "all_possible" = some (some (.ref f_all_possible)))
    (F_all_possible : ∃ fd, Fun K "all_possible" "all_possible" s_all_possible f_all_possible fd)
    (a_fewest_of : PySem.W.nsIn K mainGlobals "fewest_of" = some (some (.ref f_fewest_of)))
    (F_fewest_of : ∃ fd, Fun K "fewest_of" "fewest_of" s_fewest_of f_fewest_of fd)
    (a_fewest_each : PySem.W.nsIn K mainGlobals "fewest_each" = some (some (.ref f_fewest_each)))
    (F_fewest_each : ∃ fd, Fun K "fewest_each" "fewest_each" s_fewest_each f_fewest_each fd)
    (a_something : PySem.W.nsIn K mainGlobals "something" = some (some (.ref f_something)))
    (F_something : ∃ fd, Fun K "something" "something" s_something f_something fd)
    (a_can_be : PySem.W.nsIn K mainGlobals "can_be" = some (some (.ref f_can_be)))
    (F_can_be : ∃ fd, Fun K "can_be" "can_be" s_can_be f_can_be fd)
    (a_at_most : PySem.W.nsIn K mainGlobals "at_most" = some (some (.ref f_at_most)))
    (F_at_most : ∃ fd, Fun K "at_most" "at_most" s_at_most f_at_most fd)
    (a_all_left : PySem.W.nsIn K mainGlobals "all_left" = some (some (.ref f_all_left)))
    (F_all_left : ∃ fd, Fun K "all_left" "all_left" s_all_left f_all_left fd)
    (a_left_of : PySem.W.nsIn K mainGlobals "left_of" = some (some (.ref f_left_of)))
    (F_left_of : ∃ fd, Fun K "left_of" "left_of" s_left_of f_left_of fd)
    (a_do_begin : PySem.W.nsIn K mainGlobals "do_begin" = some (some (.ref f_do_begin)))
    (F_do_begin : ∃ fd, Fun K "do_begin" "do_begin" s_do_begin f_do_begin fd)
    (a_do_prop : PySem.W.nsIn K mainGlobals "do_prop" = some (some (.ref f_do_prop)))
    (F_do_prop : ∃ fd, Fun K "do_prop" "do_prop" s_do_prop f_do_prop fd)
    (a_do_sensor : PySem.W.nsIn K mainGlobals "do_sensor" = some (some (.ref f_do_sensor)))
    (F_do_sensor : ∃ fd, Fun K "do_sensor" "do_sensor" s_do_sensor f_do_sensor fd)
    (a_do_go : PySem.W.nsIn K mainGlobals "do_go" = some (some (.ref f_do_go)))
    (F_do_go : ∃ fd, Fun K "do_go" "do_go" s_do_go f_do_go fd)
    (a_moves_are_right : PySem.W.nsIn K mainGlobals "moves_are_right" = some (some (.ref f_moves_are_right)))
    (F_moves_are_right : ∃ fd, Fun K "moves_are_right" "moves_are_right" s_moves_are_right f_moves_are_right fd)
    (a_readings_are_right : PySem.W.nsIn K mainGlobals "readings_are_right" = some (some (.ref f_readings_are_right)))
    (F_readings_are_right : ∃ fd, Fun K "readings_are_right" "readings_are_right" s_readings_are_right f_readings_are_right fd)
    (a_do_tick : PySem.W.nsIn K mainGlobals "do_tick" = some (some (.ref f_do_tick)))
    (F_do_tick : ∃ fd, Fun K "do_tick" "do_tick" s_do_tick f_do_tick fd)
    (a_do_mend : PySem.W.nsIn K mainGlobals "do_mend" = some (some (.ref f_do_mend)))
    (F_do_mend : ∃ fd, Fun K "do_mend" "do_mend" s_do_mend f_do_mend fd)
    (a_do_allow : PySem.W.nsIn K mainGlobals "do_allow" = some (some (.ref f_do_allow)))
    (F_do_allow : ∃ fd, Fun K "do_allow" "do_allow" s_do_allow f_do_allow fd)
    (a_stands : PySem.W.nsIn K mainGlobals "stands" = some (some (.ref f_stands)))
    (F_stands : ∃ fd, Fun K "stands" "stands" s_stands f_stands fd)
    (a_say_where : PySem.W.nsIn K mainGlobals "say_where" = some (some (.ref f_say_where)))
    (F_say_where : ∃ fd, Fun K "say_where" "say_where" s_say_where f_say_where fd)
    (a_say_fewest : PySem.W.nsIn K mainGlobals "say_fewest" = some (some (.ref f_say_fewest)))
    (F_say_fewest : ∃ fd, Fun K "say_fewest" "say_fewest" s_say_fewest f_say_fewest fd)
    (a_say_explain : PySem.W.nsIn K mainGlobals "say_explain" = some (some (.ref f_say_explain)))
    (F_say_explain : ∃ fd, Fun K "say_explain" "say_explain" s_say_explain f_say_explain fd)
    (a_explains : PySem.W.nsIn K mainGlobals "explains" = some (some (.ref f_explains)))
    (F_explains : ∃ fd, Fun K "explains" "explains" s_explains f_explains fd)
    (a_say_check : PySem.W.nsIn K mainGlobals "say_check" = some (some (.ref f_say_check)))
    (F_say_check : ∃ fd, Fun K "say_check" "say_check" s_say_check f_say_check fd)
    (a_say_vote : PySem.W.nsIn K mainGlobals "say_vote" = some (some (.ref f_say_vote)))
    (F_say_vote : ∃ fd, Fun K "say_vote" "say_vote" s_say_vote f_say_vote fd)
    (a_say_state : PySem.W.nsIn K mainGlobals "say_state" = some (some (.ref f_say_state)))
    (F_say_state : ∃ fd, Fun K "say_state" "say_state" s_say_state f_say_state fd)
    (a_say_ways : PySem.W.nsIn K mainGlobals "say_ways" = some (some (.ref f_say_ways)))
    (F_say_ways : ∃ fd, Fun K "say_ways" "say_ways" s_say_ways f_say_ways fd)
    (a_around : PySem.W.nsIn K mainGlobals "around" = some (some (.ref f_around)))
    (F_around : ∃ fd, Fun K "around" "around" s_around f_around fd)
    (a_stuck_reads : PySem.W.nsIn K mainGlobals "stuck_reads" = some (some (.ref f_stuck_reads)))
    (F_stuck_reads : ∃ fd, Fun K "stuck_reads" "stuck_reads" s_stuck_reads f_stuck_reads fd)
    (a_may_read : PySem.W.nsIn K mainGlobals "may_read" = some (some (.ref f_may_read)))
    (F_may_read : ∃ fd, Fun K "may_read" "may_read" s_may_read f_may_read fd)
    (a_reads_ahead : PySem.W.nsIn K mainGlobals "reads_ahead" = some (some (.ref f_reads_ahead)))
    (F_reads_ahead : ∃ fd, Fun K "reads_ahead" "reads_ahead" s_reads_ahead f_reads_ahead fd)
    (a_share : PySem.W.nsIn K mainGlobals "share" = some (some (.ref f_share)))
    (F_share : ∃ fd, Fun K "share" "share" s_share f_share fd)
    (a_alike : PySem.W.nsIn K mainGlobals "alike" = some (some (.ref f_alike)))
    (F_alike : ∃ fd, Fun K "alike" "alike" s_alike f_alike fd)
    (a_none_alike : PySem.W.nsIn K mainGlobals "none_alike" = some (some (.ref f_none_alike)))
    (F_none_alike : ∃ fd, Fun K "none_alike" "none_alike" s_none_alike f_none_alike fd)
    (a_views_left : PySem.W.nsIn K mainGlobals "views_left" = some (some (.ref f_views_left)))
    (F_views_left : ∃ fd, Fun K "views_left" "views_left" s_views_left f_views_left fd)
    (a_told_settle : PySem.W.nsIn K mainGlobals "told_settle" = some (some (.ref f_told_settle)))
    (F_told_settle : ∃ fd, Fun K "told_settle" "told_settle" s_told_settle f_told_settle fd)
    (a_longer_rows : PySem.W.nsIn K mainGlobals "longer_rows" = some (some (.ref f_longer_rows)))
    (F_longer_rows : ∃ fd, Fun K "longer_rows" "longer_rows" s_longer_rows f_longer_rows fd)
    (a_candidates : PySem.W.nsIn K mainGlobals "candidates" = some (some (.ref f_candidates)))
    (F_candidates : ∃ fd, Fun K "candidates" "candidates" s_candidates f_candidates fd)
    (a_settles_now : PySem.W.nsIn K mainGlobals "settles_now" = some (some (.ref f_settles_now)))
    (F_settles_now : ∃ fd, Fun K "settles_now" "settles_now" s_settles_now f_settles_now fd)
    (a_first_settling : PySem.W.nsIn K mainGlobals "first_settling" = some (some (.ref f_first_settling)))
    (F_first_settling : ∃ fd, Fun K "first_settling" "first_settling" s_first_settling f_first_settling fd)
    (a_place_in_five : PySem.W.nsIn K mainGlobals "place_in_five" = some (some (.ref f_place_in_five)))
    (F_place_in_five : ∃ fd, Fun K "place_in_five" "place_in_five" s_place_in_five f_place_in_five fd)
    (a_say_blame : PySem.W.nsIn K mainGlobals "say_blame" = some (some (.ref f_say_blame)))
    (F_say_blame : ∃ fd, Fun K "say_blame" "say_blame" s_say_blame f_say_blame fd)
    (a_goes_on : PySem.W.nsIn K mainGlobals "goes_on" = some (some (.ref f_goes_on)))
    (F_goes_on : ∃ fd, Fun K "goes_on" "goes_on" s_goes_on f_goes_on fd)
    (a_say_since : PySem.W.nsIn K mainGlobals "say_since" = some (some (.ref f_say_since)))
    (F_say_since : ∃ fd, Fun K "say_since" "say_since" s_say_since f_say_since fd)
    (a_never_fine : PySem.W.nsIn K mainGlobals "never_fine" = some (some (.ref f_never_fine)))
    (F_never_fine : ∃ fd, Fun K "never_fine" "never_fine" s_never_fine f_never_fine fd)
    (a_say_sure : PySem.W.nsIn K mainGlobals "say_sure" = some (some (.ref f_say_sure)))
    (F_say_sure : ∃ fd, Fun K "say_sure" "say_sure" s_say_sure f_say_sure fd)
    (a_say_settle : PySem.W.nsIn K mainGlobals "say_settle" = some (some (.ref f_say_settle)))
    (F_say_settle : ∃ fd, Fun K "say_settle" "say_settle" s_say_settle f_say_settle fd)
    (a_told_are_right : PySem.W.nsIn K mainGlobals "told_are_right" = some (some (.ref f_told_are_right)))
    (F_told_are_right : ∃ fd, Fun K "told_are_right" "told_are_right" s_told_are_right f_told_are_right fd)
    (a_say_settles : PySem.W.nsIn K mainGlobals "say_settles" = some (some (.ref f_say_settles)))
    (F_say_settles : ∃ fd, Fun K "say_settles" "say_settles" s_say_settles f_say_settles fd)
    (a_say_reads : PySem.W.nsIn K mainGlobals "say_reads" = some (some (.ref f_say_reads)))
    (F_say_reads : ∃ fd, Fun K "say_reads" "say_reads" s_say_reads f_say_reads fd)
    (a_act : PySem.W.nsIn K mainGlobals "act" = some (some (.ref f_act)))
    (F_act : ∃ fd, Fun K "act" "act" s_act f_act fd)
    (a_ask_prop : PySem.W.nsIn K mainGlobals "ask_prop" = some (some (.ref f_ask_prop)))
    (F_ask_prop : ∃ fd, Fun K "ask_prop" "ask_prop" s_ask_prop f_ask_prop fd)
    (a_ask_sensor : PySem.W.nsIn K mainGlobals "ask_sensor" = some (some (.ref f_ask_sensor)))
    (F_ask_sensor : ∃ fd, Fun K "ask_sensor" "ask_sensor" s_ask_sensor f_ask_sensor fd)
    (a_answer_of : PySem.W.nsIn K mainGlobals "answer_of" = some (some (.ref f_answer_of)))
    (F_answer_of : ∃ fd, Fun K "answer_of" "answer_of" s_answer_of f_answer_of fd)
    (a_rows_at : PySem.W.nsIn K mainGlobals "rows_at" = some (some (.ref f_rows_at)))
    (F_rows_at : ∃ fd, Fun K "rows_at" "rows_at" s_rows_at f_rows_at fd)
    (a_answers : PySem.W.nsIn K mainGlobals "answers" = some (some (.ref f_answers)))
    (F_answers : ∃ fd, Fun K "answers" "answers" s_answers f_answers fd)
    : ∃ fd : FuncData, (∀ (s : Shared) (us : List Value), us.length = (["calls"] : List Str).length → BindsTo s fd ⟨us, []⟩ ((["calls"] : List Str).zip us)) ∧ ∀ base : Heap, K.In base → base.Ns mainGlobals mg → FnOk P w K mg base CX0 15 fa fd ["calls"] (spAns K) := by
  have e := hfa.symm.trans (PySem.W.mg_of X G a_answers)
  cases e
  have T : Txt K mg ⟨cP, cS, cR, cNUMBERS, cROWS⟩ := { clP := ⟨pg_P, hd_P, po_P, sa_P⟩, clS := ⟨pg_S, hd_S, po_S, sa_S⟩, clR := ⟨pg_R, hd_R, po_R, sa_R⟩, nP_size := n_P_size, nP_moves := n_P_moves, nS_prop := n_S_prop, nS_error := n_S_error, nS_first := n_S_first, nS_readings := n_S_readings, nR_most := n_R_most, nR_begun := n_R_begun, nR_now := n_R_now, nR_props := n_R_props, nR_sensors := n_R_sensors, b_len := PySem.W.mg_none_of X G b_len, b_abs := PySem.W.mg_none_of X G b_abs, b_max := PySem.W.mg_none_of X G b_max, b_min := PySem.W.mg_none_of X G b_min, b_sum := PySem.W.mg_none_of X G b_sum, b_all := PySem.W.mg_none_of X G b_all, b_sorted := PySem.W.mg_none_of X G b_sorted, b_range := PySem.W.mg_none_of X G b_range, b_zip := PySem.W.mg_none_of X G b_zip, b_list := PySem.W.mg_none_of X G b_list, g_LOOSE_room := ⟨_, PySem.W.mg_of X G g_LOOSE_room⟩, g_NOTHING_room := ⟨_, PySem.W.mg_of X G g_NOTHING_room⟩, g_HELD := ⟨_, PySem.W.mg_of X G g_HELD⟩, g_LOOSE_courses := ⟨_, PySem.W.mg_of X G g_LOOSE_courses⟩, g_STUCK := ⟨_, PySem.W.mg_of X G g_STUCK⟩, g_LAST_sights := ⟨_, PySem.W.mg_of X G g_LAST_sights⟩, g_NOTHING_sights := ⟨_, PySem.W.mg_of X G g_NOTHING_sights⟩, g_NONE := ⟨_, PySem.W.mg_of X G g_NONE⟩, g_LAST_acts := ⟨_, PySem.W.mg_of X G g_LAST_acts⟩, g_PROPS := ⟨_, PySem.W.mg_of X G g_PROPS⟩, g_SENSORS := ⟨_, PySem.W.mg_of X G g_SENSORS⟩, g_SENSORS_OF_ONE := ⟨_, PySem.W.mg_of X G g_SENSORS_OF_ONE⟩, g_GREATEST := ⟨_, PySem.W.mg_of X G g_GREATEST⟩, g_NUMBERS := PySem.W.mg_of X G g_NUMBERS, s_NUMBERS := t_NUMBERS, g_ROWS := PySem.W.mg_of X G g_ROWS, s_ROWS := t_ROWS }
  obtain ⟨d_Prop_init, F_Prop_init⟩ := F_Prop_init
  have B_Prop_init := F_Prop_init.binds (ps := ["self", "size"]) fun _ _ _ _ _ _ us hl => match us, hl with | [_, _], _ => rfl
  obtain ⟨d_Sensor_init, F_Sensor_init⟩ := F_Sensor_init
  have B_Sensor_init := F_Sensor_init.binds (ps := ["self", "prop", "error"]) fun _ _ _ _ _ _ us hl => match us, hl with | [_, _, _], _ => rfl
  obtain ⟨d_Room_init, F_Room_init⟩ := F_Room_init
  have B_Room_init := F_Room_init.binds (ps := ["self"]) fun _ _ _ _ _ _ us hl => match us, hl with | [_], _ => rfl
  obtain ⟨d_Room_begin, F_Room_begin⟩ := F_Room_begin
  have B_Room_begin := F_Room_begin.binds (ps := ["self", "most"]) fun _ _ _ _ _ _ us hl => match us, hl with | [_, _], _ => rfl
  obtain ⟨d_Room_add_prop, F_Room_add_prop⟩ := F_Room_add_prop
  have B_Room_add_prop := F_Room_add_prop.binds (ps := ["self", "size"]) fun _ _ _ _ _ _ us hl => match us, hl with | [_, _], _ => rfl
  obtain ⟨d_Room_add_sensor, F_Room_add_sensor⟩ := F_Room_add_sensor
  have B_Room_add_sensor := F_Room_add_sensor.binds (ps := ["self", "prop", "error"]) fun _ _ _ _ _ _ us hl => match us, hl with | [_, _, _], _ => rfl
  obtain ⟨d_Room_go, F_Room_go⟩ := F_Room_go
  have B_Room_go := F_Room_go.binds (ps := ["self"]) fun _ _ _ _ _ _ us hl => match us, hl with | [_], _ => rfl
  obtain ⟨d_Room_step, F_Room_step⟩ := F_Room_step
  have B_Room_step := F_Room_step.binds (ps := ["self", "going", "seen"]) fun _ _ _ _ _ _ us hl => match us, hl with | [_, _, _], _ => rfl
  obtain ⟨d_Room_mend, F_Room_mend⟩ := F_Room_mend
  have B_Room_mend := F_Room_mend.binds (ps := ["self", "number"]) fun _ _ _ _ _ _ us hl => match us, hl with | [_, _], _ => rfl
  obtain ⟨d_Room_allow, F_Room_allow⟩ := F_Room_allow
  have B_Room_allow := F_Room_allow.binds (ps := ["self", "most"]) fun _ _ _ _ _ _ us hl => match us, hl with | [_, _], _ => rfl
  obtain ⟨d_is_prop, F_is_prop⟩ := F_is_prop
  have B_is_prop := F_is_prop.binds (ps := ["room", "prop"]) fun _ _ _ _ _ _ us hl => match us, hl with | [_, _], _ => rfl
  obtain ⟨d_is_sensor, F_is_sensor⟩ := F_is_sensor
  have B_is_sensor := F_is_sensor.binds (ps := ["room", "number"]) fun _ _ _ _ _ _ us hl => match us, hl with | [_, _], _ => rfl
  obtain ⟨d_sensors_of, F_sensors_of⟩ := F_sensors_of
  have B_sensors_of := F_sensors_of.binds (ps := ["room", "prop"]) fun _ _ _ _ _ _ us hl => match us, hl with | [_, _], _ => rfl
  obtain ⟨d_place_of, F_place_of⟩ := F_place_of
  have B_place_of := F_place_of.binds (ps := ["room", "number"]) fun _ _ _ _ _ _ us hl => match us, hl with | [_, _], _ => rfl
  obtain ⟨d_goes, F_goes⟩ := F_goes
  have B_goes := F_goes.binds (ps := ["move", "before", "after"]) fun _ _ _ _ _ _ us hl => match us, hl with | [_, _, _], _ => rfl
  obtain ⟨d_comes, F_comes⟩ := F_comes
  have B_comes := F_comes.binds (ps := ["befores", "move", "position"]) fun _ _ _ _ _ _ us hl => match us, hl with | [_, _, _], _ => rfl
  obtain ⟨d_leads, F_leads⟩ := F_leads
  have B_leads := F_leads.binds (ps := ["position", "move", "afters"]) fun _ _ _ _ _ _ us hl => match us, hl with | [_, _, _], _ => rfl
  obtain ⟨d_forward, F_forward⟩ := F_forward
  have B_forward := F_forward.binds (ps := ["moves", "allowed"]) fun _ _ _ _ _ _ us hl => match us, hl with | [_, _], _ => rfl
  obtain ⟨d_exists, F_exists⟩ := F_exists
  have B_exists := F_exists.binds (ps := ["moves", "allowed"]) fun _ _ _ _ _ _ us hl => match us, hl with | [_, _], _ => rfl
  obtain ⟨d_seats, F_seats⟩ := F_seats
  have B_seats := F_seats.binds (ps := ["moves", "allowed"]) fun _ _ _ _ _ _ us hl => match us, hl with | [_, _], _ => rfl
  obtain ⟨d_least_course, F_least_course⟩ := F_least_course
  have B_least_course := F_least_course.binds (ps := ["moves", "allowed"]) fun _ _ _ _ _ _ us hl => match us, hl with | [_, _], _ => rfl
  obtain ⟨d_is_course, F_is_course⟩ := F_is_course
  have B_is_course := F_is_course.binds (ps := ["moves", "size", "course"]) fun _ _ _ _ _ _ us hl => match us, hl with | [_, _, _], _ => rfl
  obtain ⟨d_within, F_within⟩ := F_within
  have B_within := F_within.binds (ps := ["course", "allowed"]) fun _ _ _ _ _ _ us hl => match us, hl with | [_, _], _ => rfl
  obtain ⟨d_is_fault, F_is_fault⟩ := F_is_fault
  have B_is_fault := F_is_fault.binds (ps := ["number"]) fun _ _ _ _ _ _ us hl => match us, hl with | [_], _ => rfl
  obtain ⟨d_readings_from, F_readings_from⟩ := F_readings_from
  have B_readings_from := F_readings_from.binds (ps := ["sensor", "tick"]) fun _ _ _ _ _ _ us hl => match us, hl with | [_, _], _ => rfl
  obtain ⟨d_can_stick, F_can_stick⟩ := F_can_stick
  have B_can_stick := F_can_stick.binds (ps := ["sensor", "tick"]) fun _ _ _ _ _ _ us hl => match us, hl with | [_, _], _ => rfl
  obtain ⟨d_stuck_ticks, F_stuck_ticks⟩ := F_stuck_ticks
  have B_stuck_ticks := F_stuck_ticks.binds (ps := ["sensor", "now"]) fun _ _ _ _ _ _ us hl => match us, hl with | [_, _], _ => rfl
  obtain ⟨d_options, F_options⟩ := F_options
  have B_options := F_options.binds (ps := ["sensor", "now"]) fun _ _ _ _ _ _ us hl => match us, hl with | [_, _], _ => rfl
  obtain ⟨d_may_have, F_may_have⟩ := F_may_have
  have B_may_have := F_may_have.binds (ps := ["sensor", "fault", "now"]) fun _ _ _ _ _ _ us hl => match us, hl with | [_, _, _], _ => rfl
  obtain ⟨d_reading_about, F_reading_about⟩ := F_reading_about
  have B_reading_about := F_reading_about.binds (ps := ["sensor", "fault", "tick", "now"]) fun _ _ _ _ _ _ us hl => match us, hl with | [_, _, _, _], _ => rfl
  obtain ⟨d_agrees, F_agrees⟩ := F_agrees
  have B_agrees := F_agrees.binds (ps := ["sensor", "reading", "position"]) fun _ _ _ _ _ _ us hl => match us, hl with | [_, _, _], _ => rfl
  obtain ⟨d_sight, F_sight⟩ := F_sight
  have B_sight := F_sight.binds (ps := ["sensor", "fault", "size", "now"]) fun _ _ _ _ _ _ us hl => match us, hl with | [_, _, _, _], _ => rfl
  obtain ⟨d_whole, F_whole⟩ := F_whole
  have B_whole := F_whole.binds (ps := ["size", "now"]) fun _ _ _ _ _ _ us hl => match us, hl with | [_, _], _ => rfl
  obtain ⟨d_overlap, F_overlap⟩ := F_overlap
  have B_overlap := F_overlap.binds (ps := ["one", "two"]) fun _ _ _ _ _ _ us hl => match us, hl with | [_, _], _ => rfl
  obtain ⟨d_count_faults, F_count_faults⟩ := F_count_faults
  have B_count_faults := F_count_faults.binds (ps := ["faults"]) fun _ _ _ _ _ _ us hl => match us, hl with | [_], _ => rfl
  obtain ⟨d_widened, F_widened⟩ := F_widened
  have B_widened := F_widened.binds (ps := ["parts", "sensor", "size", "now", "most"]) fun _ _ _ _ _ _ us hl => match us, hl with | [_, _, _, _, _], _ => rfl
  obtain ⟨d_possible, F_possible⟩ := F_possible
  have B_possible := F_possible.binds (ps := ["room", "prop"]) fun _ _ _ _ _ _ us hl => match us, hl with | [_, _], _ => rfl
  obtain ⟨d_all_possible, F_all_possible⟩ := F_all_possible
  have B_all_possible := F_all_possible.binds (ps := ["room"]) fun _ _ _ _ _ _ us hl => match us, hl with | [_], _ => rfl
  obtain ⟨d_fewest_of, F_fewest_of⟩ := F_fewest_of
  have B_fewest_of := F_fewest_of.binds (ps := ["rows"]) fun _ _ _ _ _ _ us hl => match us, hl with | [_], _ => rfl
  obtain ⟨d_fewest_each, F_fewest_each⟩ := F_fewest_each
  have B_fewest_each := F_fewest_each.binds (ps := ["table"]) fun _ _ _ _ _ _ us hl => match us, hl with | [_], _ => rfl
  obtain ⟨d_something, F_something⟩ := F_something
  have B_something := F_something.binds (ps := ["few", "most"]) fun _ _ _ _ _ _ us hl => match us, hl with | [_, _], _ => rfl
  obtain ⟨d_can_be, F_can_be⟩ := F_can_be
  have B_can_be := F_can_be.binds (ps := ["room"]) fun _ _ _ _ _ _ us hl => match us, hl with | [_], _ => rfl
  obtain ⟨d_at_most, F_at_most⟩ := F_at_most
  have B_at_most := F_at_most.binds (ps := ["rows", "limit"]) fun _ _ _ _ _ _ us hl => match us, hl with | [_, _], _ => rfl
  obtain ⟨d_all_left, F_all_left⟩ := F_all_left
  have B_all_left := F_all_left.binds (ps := ["room"]) fun _ _ _ _ _ _ us hl => match us, hl with | [_], _ => rfl
  obtain ⟨d_left_of, F_left_of⟩ := F_left_of
  have B_left_of := F_left_of.binds (ps := ["room", "prop"]) fun _ _ _ _ _ _ us hl => match us, hl with | [_, _], _ => rfl
  obtain ⟨d_do_begin, F_do_begin⟩ := F_do_begin
  have B_do_begin := F_do_begin.binds (ps := ["room", "most"]) fun _ _ _ _ _ _ us hl => match us, hl with | [_, _], _ => rfl
  obtain ⟨d_do_prop, F_do_prop⟩ := F_do_prop
  have B_do_prop := F_do_prop.binds (ps := ["room", "size"]) fun _ _ _ _ _ _ us hl => match us, hl with | [_, _], _ => rfl
  obtain ⟨d_do_sensor, F_do_sensor⟩ := F_do_sensor
  have B_do_sensor := F_do_sensor.binds (ps := ["room", "prop", "error"]) fun _ _ _ _ _ _ us hl => match us, hl with | [_, _, _], _ => rfl
  obtain ⟨d_do_go, F_do_go⟩ := F_do_go
  have B_do_go := F_do_go.binds (ps := ["room"]) fun _ _ _ _ _ _ us hl => match us, hl with | [_], _ => rfl
  obtain ⟨d_moves_are_right, F_moves_are_right⟩ := F_moves_are_right
  have B_moves_are_right := F_moves_are_right.binds (ps := ["room", "moves"]) fun _ _ _ _ _ _ us hl => match us, hl with | [_, _], _ => rfl
  obtain ⟨d_readings_are_right, F_readings_are_right⟩ := F_readings_are_right
  have B_readings_are_right := F_readings_are_right.binds (ps := ["room", "readings"]) fun _ _ _ _ _ _ us hl => match us, hl with | [_, _], _ => rfl
  obtain ⟨d_do_tick, F_do_tick⟩ := F_do_tick
  have B_do_tick := F_do_tick.binds (ps := ["room", "moves", "readings"]) fun _ _ _ _ _ _ us hl => match us, hl with | [_, _, _], _ => rfl
  obtain ⟨d_do_mend, F_do_mend⟩ := F_do_mend
  have B_do_mend := F_do_mend.binds (ps := ["room", "sensor"]) fun _ _ _ _ _ _ us hl => match us, hl with | [_, _], _ => rfl
  obtain ⟨d_do_allow, F_do_allow⟩ := F_do_allow
  have B_do_allow := F_do_allow.binds (ps := ["room", "most"]) fun _ _ _ _ _ _ us hl => match us, hl with | [_, _], _ => rfl
  obtain ⟨d_stands, F_stands⟩ := F_stands
  have B_stands := F_stands.binds (ps := ["rows", "position"]) fun _ _ _ _ _ _ us hl => match us, hl with | [_, _], _ => rfl
  obtain ⟨d_say_where, F_say_where⟩ := F_say_where
  have B_say_where := F_say_where.binds (ps := ["room", "prop", "tick"]) fun _ _ _ _ _ _ us hl => match us, hl with | [_, _, _], _ => rfl
  obtain ⟨d_say_fewest, F_say_fewest⟩ := F_say_fewest
  have B_say_fewest := F_say_fewest.binds (ps := ["room"]) fun _ _ _ _ _ _ us hl => match us, hl with | [_], _ => rfl
  obtain ⟨d_say_explain, F_say_explain⟩ := F_say_explain
  have B_say_explain := F_say_explain.binds (ps := ["room", "prop"]) fun _ _ _ _ _ _ us hl => match us, hl with | [_, _], _ => rfl
  obtain ⟨d_explains, F_explains⟩ := F_explains
  have B_explains := F_explains.binds (ps := ["room", "prop", "faults", "course"]) fun _ _ _ _ _ _ us hl => match us, hl with | [_, _, _, _], _ => rfl
  obtain ⟨d_say_check, F_say_check⟩ := F_say_check
  have B_say_check := F_say_check.binds (ps := ["room", "prop", "faults", "course"]) fun _ _ _ _ _ _ us hl => match us, hl with | [_, _, _, _], _ => rfl
  obtain ⟨d_say_vote, F_say_vote⟩ := F_say_vote
  have B_say_vote := F_say_vote.binds (ps := ["room", "prop"]) fun _ _ _ _ _ _ us hl => match us, hl with | [_, _], _ => rfl
  obtain ⟨d_say_state, F_say_state⟩ := F_say_state
  have B_say_state := F_say_state.binds (ps := ["room"]) fun _ _ _ _ _ _ us hl => match us, hl with | [_], _ => rfl
  obtain ⟨d_say_ways, F_say_ways⟩ := F_say_ways
  have B_say_ways := F_say_ways.binds (ps := ["room", "prop"]) fun _ _ _ _ _ _ us hl => match us, hl with | [_, _], _ => rfl
  obtain ⟨d_around, F_around⟩ := F_around
  have B_around := F_around.binds (ps := ["sensor", "position"]) fun _ _ _ _ _ _ us hl => match us, hl with | [_, _], _ => rfl
  obtain ⟨d_stuck_reads, F_stuck_reads⟩ := F_stuck_reads
  have B_stuck_reads := F_stuck_reads.binds (ps := ["sensor", "tick"]) fun _ _ _ _ _ _ us hl => match us, hl with | [_, _], _ => rfl
  obtain ⟨d_may_read, F_may_read⟩ := F_may_read
  have B_may_read := F_may_read.binds (ps := ["sensor", "fault", "been", "told", "turn", "now"]) fun _ _ _ _ _ _ us hl => match us, hl with | [_, _, _, _, _, _], _ => rfl
  obtain ⟨d_reads_ahead, F_reads_ahead⟩ := F_reads_ahead
  have B_reads_ahead := F_reads_ahead.binds (ps := ["sensors", "view", "told", "now"]) fun _ _ _ _ _ _ us hl => match us, hl with | [_, _, _, _], _ => rfl
  obtain ⟨d_share, F_share⟩ := F_share
  have B_share := F_share.binds (ps := ["one", "two"]) fun _ _ _ _ _ _ us hl => match us, hl with | [_, _], _ => rfl
  obtain ⟨d_alike, F_alike⟩ := F_alike
  have B_alike := F_alike.binds (ps := ["one", "two"]) fun _ _ _ _ _ _ us hl => match us, hl with | [_, _], _ => rfl
  obtain ⟨d_none_alike, F_none_alike⟩ := F_none_alike
  have B_none_alike := F_none_alike.binds (ps := ["ones", "twos"]) fun _ _ _ _ _ _ us hl => match us, hl with | [_, _], _ => rfl
  obtain ⟨d_views_left, F_views_left⟩ := F_views_left
  have B_views_left := F_views_left.binds (ps := ["room", "prop"]) fun _ _ _ _ _ _ us hl => match us, hl with | [_, _], _ => rfl
  obtain ⟨d_told_settle, F_told_settle⟩ := F_told_settle
  have B_told_settle := F_told_settle.binds (ps := ["sensors", "place", "views", "told", "now"]) fun _ _ _ _ _ _ us hl => match us, hl with | [_, _, _, _, _], _ => rfl
  obtain ⟨d_longer_rows, F_longer_rows⟩ := F_longer_rows
  have B_longer_rows := F_longer_rows.binds (ps := ["rows", "size"]) fun _ _ _ _ _ _ us hl => match us, hl with | [_, _], _ => rfl
  obtain ⟨d_candidates, F_candidates⟩ := F_candidates
  have B_candidates := F_candidates.binds (ps := ["size", "many"]) fun _ _ _ _ _ _ us hl => match us, hl with | [_, _], _ => rfl
  obtain ⟨d_settles_now, F_settles_now⟩ := F_settles_now
  have B_settles_now := F_settles_now.binds (ps := ["room", "number", "told"]) fun _ _ _ _ _ _ us hl => match us, hl with | [_, _, _], _ => rfl
  obtain ⟨d_first_settling, F_first_settling⟩ := F_first_settling
  have B_first_settling := F_first_settling.binds (ps := ["room", "number", "many"]) fun _ _ _ _ _ _ us hl => match us, hl with | [_, _, _], _ => rfl
  obtain ⟨d_place_in_five, F_place_in_five⟩ := F_place_in_five
  have B_place_in_five := F_place_in_five.binds (ps := ["fault"]) fun _ _ _ _ _ _ us hl => match us, hl with | [_], _ => rfl
  obtain ⟨d_say_blame, F_say_blame⟩ := F_say_blame
  have B_say_blame := F_say_blame.binds (ps := ["room", "number"]) fun _ _ _ _ _ _ us hl => match us, hl with | [_, _], _ => rfl
  obtain ⟨d_goes_on, F_goes_on⟩ := F_goes_on
  have B_goes_on := F_goes_on.binds (ps := ["moves", "allowances", "rows"]) fun _ _ _ _ _ _ us hl => match us, hl with | [_, _, _], _ => rfl
  obtain ⟨d_say_since, F_say_since⟩ := F_say_since
  have B_say_since := F_say_since.binds (ps := ["room", "number"]) fun _ _ _ _ _ _ us hl => match us, hl with | [_, _], _ => rfl
  obtain ⟨d_never_fine, F_never_fine⟩ := F_never_fine
  have B_never_fine := F_never_fine.binds (ps := ["room", "table", "number"]) fun _ _ _ _ _ _ us hl => match us, hl with | [_, _, _], _ => rfl
  obtain ⟨d_say_sure, F_say_sure⟩ := F_say_sure
  have B_say_sure := F_say_sure.binds (ps := ["room"]) fun _ _ _ _ _ _ us hl => match us, hl with | [_], _ => rfl
  obtain ⟨d_say_settle, F_say_settle⟩ := F_say_settle
  have B_say_settle := F_say_settle.binds (ps := ["room", "number", "many"]) fun _ _ _ _ _ _ us hl => match us, hl with | [_, _, _], _ => rfl
  obtain ⟨d_told_are_right, F_told_are_right⟩ := F_told_are_right
  have B_told_are_right := F_told_are_right.binds (ps := ["room", "number", "told"]) fun _ _ _ _ _ _ us hl => match us, hl with | [_, _, _], _ => rfl
  obtain ⟨d_say_settles, F_say_settles⟩ := F_say_settles
  have B_say_settles := F_say_settles.binds (ps := ["room", "number", "told"]) fun _ _ _ _ _ _ us hl => match us, hl with | [_, _, _], _ => rfl
  obtain ⟨d_say_reads, F_say_reads⟩ := F_say_reads
  have B_say_reads := F_say_reads.binds (ps := ["room", "number"]) fun _ _ _ _ _ _ us hl => match us, hl with | [_, _], _ => rfl
  obtain ⟨d_act, F_act⟩ := F_act
  have B_act := F_act.binds (ps := ["room", "call", "numbers", "rows"]) fun _ _ _ _ _ _ us hl => match us, hl with | [_, _, _, _], _ => rfl
  obtain ⟨d_ask_prop, F_ask_prop⟩ := F_ask_prop
  have B_ask_prop := F_ask_prop.binds (ps := ["room", "call", "numbers", "rows"]) fun _ _ _ _ _ _ us hl => match us, hl with | [_, _, _, _], _ => rfl
  obtain ⟨d_ask_sensor, F_ask_sensor⟩ := F_ask_sensor
  have B_ask_sensor := F_ask_sensor.binds (ps := ["room", "call", "numbers", "rows"]) fun _ _ _ _ _ _ us hl => match us, hl with | [_, _, _, _], _ => rfl
  obtain ⟨d_answer_of, F_answer_of⟩ := F_answer_of
  have B_answer_of := F_answer_of.binds (ps := ["room", "call", "numbers", "rows"]) fun _ _ _ _ _ _ us hl => match us, hl with | [_, _, _, _], _ => rfl
  obtain ⟨d_rows_at, F_rows_at⟩ := F_rows_at
  have B_rows_at := F_rows_at.binds (ps := ["calls", "at", "many"]) fun _ _ _ _ _ _ us hl => match us, hl with | [_, _, _], _ => rfl
  obtain ⟨d_answers, F_answers⟩ := F_answers
  have B_answers := F_answers.binds (ps := ["calls"]) fun _ _ _ _ _ _ us hl => match us, hl with | [_], _ => rfl
  refine ⟨d_answers, fun s us hu => match us, hu with | [u], _ => ?_, fun base _ _ => ?_⟩
  · obtain ⟨oc, od, kV, doc, pm, an, cdv, ct, osl, e1, _, _⟩ := F_answers.ex
    subst e1
    exact .of_eq rfl
  have D_Prop_init : DefC P w K mg base 1 "Prop" cP ["self", "size"] (sp_Prop_init K ⟨cP, cS, cR, cNUMBERS, cROWS⟩) := ⟨_, _, ok_Prop_init T F_Prop_init, ⟨mk_P, a_Prop_init, i_Prop_init, kc_P⟩, PySem.W.mg_of X G c_P, B_Prop_init⟩
  have D_Sensor_init : DefC P w K mg base 1 "Sensor" cS ["self", "prop", "error"] (sp_Sensor_init K ⟨cP, cS, cR, cNUMBERS, cROWS⟩) := ⟨_, _, ok_Sensor_init T F_Sensor_init, ⟨mk_S, a_Sensor_init, i_Sensor_init, kc_S⟩, PySem.W.mg_of X G c_S, B_Sensor_init⟩
  have D_Room_init : DefC P w K mg base 1 "Room" cR ["self"] (sp_Room_init K ⟨cP, cS, cR, cNUMBERS, cROWS⟩) := ⟨_, _, ok_Room_init T F_Room_init, ⟨mk_R, a_Room_init, i_Room_init, kc_R⟩, PySem.W.mg_of X G c_R, B_Room_init⟩
  have D_Room_begin : DefM P w K mg base 1 "begin" cR ["self", "most"] (sp_Room_begin K ⟨cP, cS, cR, cNUMBERS, cROWS⟩) := ⟨_, _, ok_Room_begin T F_Room_begin, ⟨a_Room_begin, i_Room_begin, F_Room_begin.kp⟩, B_Room_begin⟩
  have D_Room_add_prop : DefM P w K mg base 3 "add_prop" cR ["self", "size"] (sp_Room_add_prop K ⟨cP, cS, cR, cNUMBERS, cROWS⟩) := ⟨_, _, ok_Room_add_prop T F_Room_add_prop D_Prop_init, ⟨a_Room_add_prop, i_Room_add_prop, F_Room_add_prop.kp⟩, B_Room_add_prop⟩
  have D_Room_add_sensor : DefM P w K mg base 3 "add_sensor" cR ["self", "prop", "error"] (sp_Room_add_sensor K ⟨cP, cS, cR, cNUMBERS, cROWS⟩) := ⟨_, _, ok_Room_add_sensor T F_Room_add_sensor D_Sensor_init, ⟨a_Room_add_sensor, i_Room_add_sensor, F_Room_add_sensor.kp⟩, B_Room_add_sensor⟩
  have D_Room_go : DefM P w K mg base 1 "go" cR ["self"] (sp_Room_go K ⟨cP, cS, cR, cNUMBERS, cROWS⟩) := ⟨_, _, ok_Room_go T F_Room_go, ⟨a_Room_go, i_Room_go, F_Room_go.kp⟩, B_Room_go⟩
  have D_Room_step : DefM P w K mg base 1 "step" cR ["self", "going", "seen"] (sp_Room_step K ⟨cP, cS, cR, cNUMBERS, cROWS⟩) := ⟨_, _, ok_Room_step T F_Room_step, ⟨a_Room_step, i_Room_step, F_Room_step.kp⟩, B_Room_step⟩
  have D_Room_mend : DefM P w K mg base 1 "mend" cR ["self", "number"] (sp_Room_mend K ⟨cP, cS, cR, cNUMBERS, cROWS⟩) := ⟨_, _, ok_Room_mend T F_Room_mend, ⟨a_Room_mend, i_Room_mend, F_Room_mend.kp⟩, B_Room_mend⟩
  have D_Room_allow : DefM P w K mg base 1 "allow" cR ["self", "most"] (sp_Room_allow K ⟨cP, cS, cR, cNUMBERS, cROWS⟩) := ⟨_, _, ok_Room_allow T F_Room_allow, ⟨a_Room_allow, i_Room_allow, F_Room_allow.kp⟩, B_Room_allow⟩
  have D_is_prop : Def P w K mg base 1 "is_prop" ["room", "prop"] (sp_is_prop K ⟨cP, cS, cR, cNUMBERS, cROWS⟩) := ⟨_, _, ok_is_prop T F_is_prop, PySem.W.mg_of X G a_is_prop, F_is_prop.kp, B_is_prop⟩
  have D_is_sensor : Def P w K mg base 1 "is_sensor" ["room", "number"] (sp_is_sensor K ⟨cP, cS, cR, cNUMBERS, cROWS⟩) := ⟨_, _, ok_is_sensor T F_is_sensor, PySem.W.mg_of X G a_is_sensor, F_is_sensor.kp, B_is_sensor⟩
  have D_sensors_of : Def P w K mg base 1 "sensors_of" ["room", "prop"] (sp_sensors_of K ⟨cP, cS, cR, cNUMBERS, cROWS⟩) := ⟨_, _, ok_sensors_of T F_sensors_of, PySem.W.mg_of X G a_sensors_of, F_sensors_of.kp, B_sensors_of⟩
  have D_place_of : Def P w K mg base 1 "place_of" ["room", "number"] (sp_place_of K ⟨cP, cS, cR, cNUMBERS, cROWS⟩) := ⟨_, _, ok_place_of T F_place_of, PySem.W.mg_of X G a_place_of, F_place_of.kp, B_place_of⟩
  have D_goes : Def P w K mg base 1 "goes" ["move", "before", "after"] (sp_goes K ⟨cP, cS, cR, cNUMBERS, cROWS⟩) := ⟨_, _, ok_goes T F_goes, PySem.W.mg_of X G a_goes, F_goes.kp, B_goes⟩
  have D_comes : Def P w K mg base 1 "comes" ["befores", "move", "position"] (sp_comes K ⟨cP, cS, cR, cNUMBERS, cROWS⟩) := ⟨_, _, ok_comes T F_comes, PySem.W.mg_of X G a_comes, F_comes.kp, B_comes⟩
  have D_leads : Def P w K mg base 1 "leads" ["position", "move", "afters"] (sp_leads K ⟨cP, cS, cR, cNUMBERS, cROWS⟩) := ⟨_, _, ok_leads T F_leads, PySem.W.mg_of X G a_leads, F_leads.kp, B_leads⟩
  have D_forward : Def P w K mg base 2 "forward" ["moves", "allowed"] (sp_forward K ⟨cP, cS, cR, cNUMBERS, cROWS⟩) := ⟨_, _, ok_forward T F_forward D_comes, PySem.W.mg_of X G a_forward, F_forward.kp, B_forward⟩
  have D_exists : Def P w K mg base 3 "exists" ["moves", "allowed"] (sp_exists K ⟨cP, cS, cR, cNUMBERS, cROWS⟩) := ⟨_, _, ok_exists T F_exists D_forward, PySem.W.mg_of X G a_exists, F_exists.kp, B_exists⟩
  have D_seats : Def P w K mg base 3 "seats" ["moves", "allowed"] (sp_seats K ⟨cP, cS, cR, cNUMBERS, cROWS⟩) := ⟨_, _, ok_seats T F_seats D_forward D_leads, PySem.W.mg_of X G a_seats, F_seats.kp, B_seats⟩
  have D_least_course : Def P w K mg base 3 "least_course" ["moves", "allowed"] (sp_least_course K ⟨cP, cS, cR, cNUMBERS, cROWS⟩) := ⟨_, _, ok_least_course T F_least_course D_forward D_goes, PySem.W.mg_of X G a_least_course, F_least_course.kp, B_least_course⟩
  have D_is_course : Def P w K mg base 2 "is_course" ["moves", "size", "course"] (sp_is_course K ⟨cP, cS, cR, cNUMBERS, cROWS⟩) := ⟨_, _, ok_is_course T F_is_course D_goes, PySem.W.mg_of X G a_is_course, F_is_course.kp, B_is_course⟩
  have D_within : Def P w K mg base 1 "within" ["course", "allowed"] (sp_within K ⟨cP, cS, cR, cNUMBERS, cROWS⟩) := ⟨_, _, ok_within T F_within, PySem.W.mg_of X G a_within, F_within.kp, B_within⟩
  have D_is_fault : Def P w K mg base 1 "is_fault" ["number"] (sp_is_fault K ⟨cP, cS, cR, cNUMBERS, cROWS⟩) := ⟨_, _, ok_is_fault T F_is_fault, PySem.W.mg_of X G a_is_fault, F_is_fault.kp, B_is_fault⟩
  have D_readings_from : Def P w K mg base 1 "readings_from" ["sensor", "tick"] (sp_readings_from K ⟨cP, cS, cR, cNUMBERS, cROWS⟩) := ⟨_, _, ok_readings_from T F_readings_from, PySem.W.mg_of X G a_readings_from, F_readings_from.kp, B_readings_from⟩
  have D_can_stick : Def P w K mg base 2 "can_stick" ["sensor", "tick"] (sp_can_stick K ⟨cP, cS, cR, cNUMBERS, cROWS⟩) := ⟨_, _, ok_can_stick T F_can_stick D_readings_from, PySem.W.mg_of X G a_can_stick, F_can_stick.kp, B_can_stick⟩
  have D_stuck_ticks : Def P w K mg base 3 "stuck_ticks" ["sensor", "now"] (sp_stuck_ticks K ⟨cP, cS, cR, cNUMBERS, cROWS⟩) := ⟨_, _, ok_stuck_ticks T F_stuck_ticks D_can_stick, PySem.W.mg_of X G a_stuck_ticks, F_stuck_ticks.kp, B_stuck_ticks⟩
  have D_options : Def P w K mg base 4 "options" ["sensor", "now"] (sp_options K ⟨cP, cS, cR, cNUMBERS, cROWS⟩) := ⟨_, _, ok_options T F_options D_stuck_ticks, PySem.W.mg_of X G a_options, F_options.kp, B_options⟩
  have D_may_have : Def P w K mg base 3 "may_have" ["sensor", "fault", "now"] (sp_may_have K ⟨cP, cS, cR, cNUMBERS, cROWS⟩) := ⟨_, _, ok_may_have T F_may_have D_can_stick, PySem.W.mg_of X G a_may_have, F_may_have.kp, B_may_have⟩
  have D_reading_about : Def P w K mg base 1 "reading_about" ["sensor", "fault", "tick", "now"] (sp_reading_about K ⟨cP, cS, cR, cNUMBERS, cROWS⟩) := ⟨_, _, ok_reading_about T F_reading_about, PySem.W.mg_of X G a_reading_about, F_reading_about.kp, B_reading_about⟩
  have D_agrees : Def P w K mg base 1 "agrees" ["sensor", "reading", "position"] (sp_agrees K ⟨cP, cS, cR, cNUMBERS, cROWS⟩) := ⟨_, _, ok_agrees T F_agrees, PySem.W.mg_of X G a_agrees, F_agrees.kp, B_agrees⟩
  have D_sight : Def P w K mg base 2 "sight" ["sensor", "fault", "size", "now"] (sp_sight K ⟨cP, cS, cR, cNUMBERS, cROWS⟩) := ⟨_, _, ok_sight T F_sight D_reading_about D_agrees, PySem.W.mg_of X G a_sight, F_sight.kp, B_sight⟩
  have D_whole : Def P w K mg base 1 "whole" ["size", "now"] (sp_whole K ⟨cP, cS, cR, cNUMBERS, cROWS⟩) := ⟨_, _, ok_whole T F_whole, PySem.W.mg_of X G a_whole, F_whole.kp, B_whole⟩
  have D_overlap : Def P w K mg base 1 "overlap" ["one", "two"] (sp_overlap K ⟨cP, cS, cR, cNUMBERS, cROWS⟩) := ⟨_, _, ok_overlap T F_overlap, PySem.W.mg_of X G a_overlap, F_overlap.kp, B_overlap⟩
  have D_count_faults : Def P w K mg base 1 "count_faults" ["faults"] (sp_count_faults K ⟨cP, cS, cR, cNUMBERS, cROWS⟩) := ⟨_, _, ok_count_faults T F_count_faults, PySem.W.mg_of X G a_count_faults, F_count_faults.kp, B_count_faults⟩
  have D_widened : Def P w K mg base 5 "widened" ["parts", "sensor", "size", "now", "most"] (sp_widened K ⟨cP, cS, cR, cNUMBERS, cROWS⟩) := ⟨_, _, ok_widened T F_widened D_options D_sight D_count_faults D_overlap, PySem.W.mg_of X G a_widened, F_widened.kp, B_widened⟩
  have D_possible : Def P w K mg base 6 "possible" ["room", "prop"] (sp_possible K ⟨cP, cS, cR, cNUMBERS, cROWS⟩) := ⟨_, _, ok_possible T F_possible D_whole D_sensors_of D_widened D_exists, PySem.W.mg_of X G a_possible, F_possible.kp, B_possible⟩
  have D_all_possible : Def P w K mg base 7 "all_possible" ["room"] (sp_all_possible K ⟨cP, cS, cR, cNUMBERS, cROWS⟩) := ⟨_, _, ok_all_possible T F_all_possible D_possible, PySem.W.mg_of X G a_all_possible, F_all_possible.kp, B_all_possible⟩
  have D_fewest_of : Def P w K mg base 2 "fewest_of" ["rows"] (sp_fewest_of K ⟨cP, cS, cR, cNUMBERS, cROWS⟩) := ⟨_, _, ok_fewest_of T F_fewest_of D_count_faults, PySem.W.mg_of X G a_fewest_of, F_fewest_of.kp, B_fewest_of⟩
  have D_fewest_each : Def P w K mg base 3 "fewest_each" ["table"] (sp_fewest_each K ⟨cP, cS, cR, cNUMBERS, cROWS⟩) := ⟨_, _, ok_fewest_each T F_fewest_each D_fewest_of, PySem.W.mg_of X G a_fewest_each, F_fewest_each.kp, B_fewest_each⟩
  have D_something : Def P w K mg base 1 "something" ["few", "most"] (sp_something K ⟨cP, cS, cR, cNUMBERS, cROWS⟩) := ⟨_, _, ok_something T F_something, PySem.W.mg_of X G a_something, F_something.kp, B_something⟩
  have D_can_be : Def P w K mg base 8 "can_be" ["room"] (sp_can_be K ⟨cP, cS, cR, cNUMBERS, cROWS⟩) := ⟨_, _, ok_can_be T F_can_be D_something D_fewest_each D_all_possible, PySem.W.mg_of X G a_can_be, F_can_be.kp, B_can_be⟩
  have D_at_most : Def P w K mg base 2 "at_most" ["rows", "limit"] (sp_at_most K ⟨cP, cS, cR, cNUMBERS, cROWS⟩) := ⟨_, _, ok_at_most T F_at_most D_count_faults, PySem.W.mg_of X G a_at_most, F_at_most.kp, B_at_most⟩
  have D_all_left : Def P w K mg base 8 "all_left" ["room"] (sp_all_left K ⟨cP, cS, cR, cNUMBERS, cROWS⟩) := ⟨_, _, ok_all_left T F_all_left D_all_possible D_fewest_each D_something D_at_most, PySem.W.mg_of X G a_all_left, F_all_left.kp, B_all_left⟩
  have D_left_of : Def P w K mg base 9 "left_of" ["room", "prop"] (sp_left_of K ⟨cP, cS, cR, cNUMBERS, cROWS⟩) := ⟨_, _, ok_left_of T F_left_of D_all_left, PySem.W.mg_of X G a_left_of, F_left_of.kp, B_left_of⟩
  have D_do_begin : Def P w K mg base 2 "do_begin" ["room", "most"] (sp_do_begin K ⟨cP, cS, cR, cNUMBERS, cROWS⟩) := ⟨_, _, ok_do_begin T F_do_begin D_Room_begin, PySem.W.mg_of X G a_do_begin, F_do_begin.kp, B_do_begin⟩
  have D_do_prop : Def P w K mg base 4 "do_prop" ["room", "size"] (sp_do_prop K ⟨cP, cS, cR, cNUMBERS, cROWS⟩) := ⟨_, _, ok_do_prop T F_do_prop D_Room_add_prop, PySem.W.mg_of X G a_do_prop, F_do_prop.kp, B_do_prop⟩
  have D_do_sensor : Def P w K mg base 4 "do_sensor" ["room", "prop", "error"] (sp_do_sensor K ⟨cP, cS, cR, cNUMBERS, cROWS⟩) := ⟨_, _, ok_do_sensor T F_do_sensor D_is_prop D_sensors_of D_Room_add_sensor, PySem.W.mg_of X G a_do_sensor, F_do_sensor.kp, B_do_sensor⟩
  have D_do_go : Def P w K mg base 2 "do_go" ["room"] (sp_do_go K ⟨cP, cS, cR, cNUMBERS, cROWS⟩) := ⟨_, _, ok_do_go T F_do_go D_Room_go, PySem.W.mg_of X G a_do_go, F_do_go.kp, B_do_go⟩
  have D_moves_are_right : Def P w K mg base 1 "moves_are_right" ["room", "moves"] (sp_moves_are_right K ⟨cP, cS, cR, cNUMBERS, cROWS⟩) := ⟨_, _, ok_moves_are_right T F_moves_are_right, PySem.W.mg_of X G a_moves_are_right, F_moves_are_right.kp, B_moves_are_right⟩
  have D_readings_are_right : Def P w K mg base 1 "readings_are_right" ["room", "readings"] (sp_readings_are_right K ⟨cP, cS, cR, cNUMBERS, cROWS⟩) := ⟨_, _, ok_readings_are_right T F_readings_are_right, PySem.W.mg_of X G a_readings_are_right, F_readings_are_right.kp, B_readings_are_right⟩
  have D_do_tick : Def P w K mg base 9 "do_tick" ["room", "moves", "readings"] (sp_do_tick K ⟨cP, cS, cR, cNUMBERS, cROWS⟩) := ⟨_, _, ok_do_tick T F_do_tick D_moves_are_right D_readings_are_right D_Room_step D_can_be, PySem.W.mg_of X G a_do_tick, F_do_tick.kp, B_do_tick⟩
  have D_do_mend : Def P w K mg base 2 "do_mend" ["room", "sensor"] (sp_do_mend K ⟨cP, cS, cR, cNUMBERS, cROWS⟩) := ⟨_, _, ok_do_mend T F_do_mend D_is_sensor D_Room_mend, PySem.W.mg_of X G a_do_mend, F_do_mend.kp, B_do_mend⟩
  have D_do_allow : Def P w K mg base 2 "do_allow" ["room", "most"] (sp_do_allow K ⟨cP, cS, cR, cNUMBERS, cROWS⟩) := ⟨_, _, ok_do_allow T F_do_allow D_Room_allow, PySem.W.mg_of X G a_do_allow, F_do_allow.kp, B_do_allow⟩
  have D_stands : Def P w K mg base 1 "stands" ["rows", "position"] (sp_stands K ⟨cP, cS, cR, cNUMBERS, cROWS⟩) := ⟨_, _, ok_stands T F_stands, PySem.W.mg_of X G a_stands, F_stands.kp, B_stands⟩
  have D_say_where : Def P w K mg base 10 "say_where" ["room", "prop", "tick"] (sp_say_where K ⟨cP, cS, cR, cNUMBERS, cROWS⟩) := ⟨_, _, ok_say_where T F_say_where D_is_prop D_left_of D_seats D_stands, PySem.W.mg_of X G a_say_where, F_say_where.kp, B_say_where⟩
  have D_say_fewest : Def P w K mg base 8 "say_fewest" ["room"] (sp_say_fewest K ⟨cP, cS, cR, cNUMBERS, cROWS⟩) := ⟨_, _, ok_say_fewest T F_say_fewest D_fewest_each D_all_possible D_something, PySem.W.mg_of X G a_say_fewest, F_say_fewest.kp, B_say_fewest⟩
  have D_say_explain : Def P w K mg base 10 "say_explain" ["room", "prop"] (sp_say_explain K ⟨cP, cS, cR, cNUMBERS, cROWS⟩) := ⟨_, _, ok_say_explain T F_say_explain D_is_prop D_left_of D_at_most D_fewest_of D_least_course, PySem.W.mg_of X G a_say_explain, F_say_explain.kp, B_say_explain⟩
  have D_explains : Def P w K mg base 4 "explains" ["room", "prop", "faults", "course"] (sp_explains K ⟨cP, cS, cR, cNUMBERS, cROWS⟩) := ⟨_, _, ok_explains T F_explains D_sensors_of D_is_course D_may_have D_within D_sight, PySem.W.mg_of X G a_explains, F_explains.kp, B_explains⟩
  have D_say_check : Def P w K mg base 5 "say_check" ["room", "prop", "faults", "course"] (sp_say_check K ⟨cP, cS, cR, cNUMBERS, cROWS⟩) := ⟨_, _, ok_say_check T F_say_check D_is_prop D_is_fault D_count_faults D_explains, PySem.W.mg_of X G a_say_check, F_say_check.kp, B_say_check⟩
  have D_say_vote : Def P w K mg base 2 "say_vote" ["room", "prop"] (sp_say_vote K ⟨cP, cS, cR, cNUMBERS, cROWS⟩) := ⟨_, _, ok_say_vote T F_say_vote D_is_prop D_sensors_of, PySem.W.mg_of X G a_say_vote, F_say_vote.kp, B_say_vote⟩
  have D_say_state : Def P w K mg base 1 "say_state" ["room"] (sp_say_state K ⟨cP, cS, cR, cNUMBERS, cROWS⟩) := ⟨_, _, ok_say_state T F_say_state, PySem.W.mg_of X G a_say_state, F_say_state.kp, B_say_state⟩
  have D_say_ways : Def P w K mg base 10 "say_ways" ["room", "prop"] (sp_say_ways K ⟨cP, cS, cR, cNUMBERS, cROWS⟩) := ⟨_, _, ok_say_ways T F_say_ways D_is_prop D_left_of, PySem.W.mg_of X G a_say_ways, F_say_ways.kp, B_say_ways⟩
  have D_around : Def P w K mg base 1 "around" ["sensor", "position"] (sp_around K ⟨cP, cS, cR, cNUMBERS, cROWS⟩) := ⟨_, _, ok_around T F_around, PySem.W.mg_of X G a_around, F_around.kp, B_around⟩
  have D_stuck_reads : Def P w K mg base 2 "stuck_reads" ["sensor", "tick"] (sp_stuck_reads K ⟨cP, cS, cR, cNUMBERS, cROWS⟩) := ⟨_, _, ok_stuck_reads T F_stuck_reads D_readings_from, PySem.W.mg_of X G a_stuck_reads, F_stuck_reads.kp, B_stuck_reads⟩
  have D_may_read : Def P w K mg base 3 "may_read" ["sensor", "fault", "been", "told", "turn", "now"] (sp_may_read K ⟨cP, cS, cR, cNUMBERS, cROWS⟩) := ⟨_, _, ok_may_read T F_may_read D_stuck_reads D_around, PySem.W.mg_of X G a_may_read, F_may_read.kp, B_may_read⟩
  have D_reads_ahead : Def P w K mg base 4 "reads_ahead" ["sensors", "view", "told", "now"] (sp_reads_ahead K ⟨cP, cS, cR, cNUMBERS, cROWS⟩) := ⟨_, _, ok_reads_ahead T F_reads_ahead D_may_read, PySem.W.mg_of X G a_reads_ahead, F_reads_ahead.kp, B_reads_ahead⟩
  have D_share : Def P w K mg base 1 "share" ["one", "two"] (sp_share K ⟨cP, cS, cR, cNUMBERS, cROWS⟩) := ⟨_, _, ok_share T F_share, PySem.W.mg_of X G a_share, F_share.kp, B_share⟩
  have D_alike : Def P w K mg base 2 "alike" ["one", "two"] (sp_alike K ⟨cP, cS, cR, cNUMBERS, cROWS⟩) := ⟨_, _, ok_alike T F_alike D_share, PySem.W.mg_of X G a_alike, F_alike.kp, B_alike⟩
  have D_none_alike : Def P w K mg base 3 "none_alike" ["ones", "twos"] (sp_none_alike K ⟨cP, cS, cR, cNUMBERS, cROWS⟩) := ⟨_, _, ok_none_alike T F_none_alike D_alike, PySem.W.mg_of X G a_none_alike, F_none_alike.kp, B_none_alike⟩
  have D_views_left : Def P w K mg base 10 "views_left" ["room", "prop"] (sp_views_left K ⟨cP, cS, cR, cNUMBERS, cROWS⟩) := ⟨_, _, ok_views_left T F_views_left D_left_of D_seats, PySem.W.mg_of X G a_views_left, F_views_left.kp, B_views_left⟩
  have D_told_settle : Def P w K mg base 5 "told_settle" ["sensors", "place", "views", "told", "now"] (sp_told_settle K ⟨cP, cS, cR, cNUMBERS, cROWS⟩) := ⟨_, _, ok_told_settle T F_told_settle D_reads_ahead D_none_alike, PySem.W.mg_of X G a_told_settle, F_told_settle.kp, B_told_settle⟩
  have D_longer_rows : Def P w K mg base 1 "longer_rows" ["rows", "size"] (sp_longer_rows K ⟨cP, cS, cR, cNUMBERS, cROWS⟩) := ⟨_, _, ok_longer_rows T F_longer_rows, PySem.W.mg_of X G a_longer_rows, F_longer_rows.kp, B_longer_rows⟩
  have D_candidates : Def P w K mg base 2 "candidates" ["size", "many"] (sp_candidates K ⟨cP, cS, cR, cNUMBERS, cROWS⟩) := ⟨_, _, ok_candidates T F_candidates D_longer_rows, PySem.W.mg_of X G a_candidates, F_candidates.kp, B_candidates⟩
  have D_settles_now : Def P w K mg base 11 "settles_now" ["room", "number", "told"] (sp_settles_now K ⟨cP, cS, cR, cNUMBERS, cROWS⟩) := ⟨_, _, ok_settles_now T F_settles_now D_views_left D_told_settle D_place_of D_sensors_of, PySem.W.mg_of X G a_settles_now, F_settles_now.kp, B_settles_now⟩
  have D_first_settling : Def P w K mg base 11 "first_settling" ["room", "number", "many"] (sp_first_settling K ⟨cP, cS, cR, cNUMBERS, cROWS⟩) := ⟨_, _, ok_first_settling T F_first_settling D_sensors_of D_place_of D_views_left D_candidates D_told_settle, PySem.W.mg_of X G a_first_settling, F_first_settling.kp, B_first_settling⟩
  have D_place_in_five : Def P w K mg base 1 "place_in_five" ["fault"] (sp_place_in_five K ⟨cP, cS, cR, cNUMBERS, cROWS⟩) := ⟨_, _, ok_place_in_five T F_place_in_five, PySem.W.mg_of X G a_place_in_five, F_place_in_five.kp, B_place_in_five⟩
  have D_say_blame : Def P w K mg base 10 "say_blame" ["room", "number"] (sp_say_blame K ⟨cP, cS, cR, cNUMBERS, cROWS⟩) := ⟨_, _, ok_say_blame T F_say_blame D_is_sensor D_place_of D_left_of D_place_in_five, PySem.W.mg_of X G a_say_blame, F_say_blame.kp, B_say_blame⟩
  have D_goes_on : Def P w K mg base 4 "goes_on" ["moves", "allowances", "rows"] (sp_goes_on K ⟨cP, cS, cR, cNUMBERS, cROWS⟩) := ⟨_, _, ok_goes_on T F_goes_on D_exists D_overlap, PySem.W.mg_of X G a_goes_on, F_goes_on.kp, B_goes_on⟩
  have D_say_since : Def P w K mg base 10 "say_since" ["room", "number"] (sp_say_since K ⟨cP, cS, cR, cNUMBERS, cROWS⟩) := ⟨_, _, ok_say_since T F_say_since D_is_sensor D_place_of D_left_of D_stuck_ticks D_sight D_goes_on, PySem.W.mg_of X G a_say_since, F_say_since.kp, B_say_since⟩
  have D_never_fine : Def P w K mg base 2 "never_fine" ["room", "table", "number"] (sp_never_fine K ⟨cP, cS, cR, cNUMBERS, cROWS⟩) := ⟨_, _, ok_never_fine T F_never_fine D_place_of, PySem.W.mg_of X G a_never_fine, F_never_fine.kp, B_never_fine⟩
  have D_say_sure : Def P w K mg base 9 "say_sure" ["room"] (sp_say_sure K ⟨cP, cS, cR, cNUMBERS, cROWS⟩) := ⟨_, _, ok_say_sure T F_say_sure D_can_be D_all_left D_never_fine, PySem.W.mg_of X G a_say_sure, F_say_sure.kp, B_say_sure⟩
  have D_say_settle : Def P w K mg base 12 "say_settle" ["room", "number", "many"] (sp_say_settle K ⟨cP, cS, cR, cNUMBERS, cROWS⟩) := ⟨_, _, ok_say_settle T F_say_settle D_is_sensor D_first_settling, PySem.W.mg_of X G a_say_settle, F_say_settle.kp, B_say_settle⟩
  have D_told_are_right : Def P w K mg base 1 "told_are_right" ["room", "number", "told"] (sp_told_are_right K ⟨cP, cS, cR, cNUMBERS, cROWS⟩) := ⟨_, _, ok_told_are_right T F_told_are_right, PySem.W.mg_of X G a_told_are_right, F_told_are_right.kp, B_told_are_right⟩
  have D_say_settles : Def P w K mg base 12 "say_settles" ["room", "number", "told"] (sp_say_settles K ⟨cP, cS, cR, cNUMBERS, cROWS⟩) := ⟨_, _, ok_say_settles T F_say_settles D_is_sensor D_told_are_right D_settles_now, PySem.W.mg_of X G a_say_settles, F_say_settles.kp, B_say_settles⟩
  have D_say_reads : Def P w K mg base 2 "say_reads" ["room", "number"] (sp_say_reads K ⟨cP, cS, cR, cNUMBERS, cROWS⟩) := ⟨_, _, ok_say_reads T F_say_reads D_is_sensor, PySem.W.mg_of X G a_say_reads, F_say_reads.kp, B_say_reads⟩
  have D_act : Def P w K mg base 10 "act" ["room", "call", "numbers", "rows"] (sp_act K ⟨cP, cS, cR, cNUMBERS, cROWS⟩) := ⟨_, _, ok_act T F_act D_do_begin D_do_prop D_do_sensor D_do_go D_do_tick D_do_mend D_do_allow, PySem.W.mg_of X G a_act, F_act.kp, B_act⟩
  have D_ask_prop : Def P w K mg base 11 "ask_prop" ["room", "call", "numbers", "rows"] (sp_ask_prop K ⟨cP, cS, cR, cNUMBERS, cROWS⟩) := ⟨_, _, ok_ask_prop T F_ask_prop D_say_where D_say_fewest D_say_explain D_say_check D_say_vote D_say_state D_say_ways, PySem.W.mg_of X G a_ask_prop, F_ask_prop.kp, B_ask_prop⟩
  have D_ask_sensor : Def P w K mg base 13 "ask_sensor" ["room", "call", "numbers", "rows"] (sp_ask_sensor K ⟨cP, cS, cR, cNUMBERS, cROWS⟩) := ⟨_, _, ok_ask_sensor T F_ask_sensor D_say_blame D_say_since D_say_sure D_say_settle D_say_settles D_say_reads, PySem.W.mg_of X G a_ask_sensor, F_ask_sensor.kp, B_ask_sensor⟩
  have D_answer_of : Def P w K mg base 14 "answer_of" ["room", "call", "numbers", "rows"] (sp_answer_of K ⟨cP, cS, cR, cNUMBERS, cROWS⟩) := ⟨_, _, ok_answer_of T F_answer_of D_act D_ask_prop D_ask_sensor, PySem.W.mg_of X G a_answer_of, F_answer_of.kp, B_answer_of⟩
  have D_rows_at : Def P w K mg base 1 "rows_at" ["calls", "at", "many"] (sp_rows_at K ⟨cP, cS, cR, cNUMBERS, cROWS⟩) := ⟨_, _, ok_rows_at T F_rows_at, PySem.W.mg_of X G a_rows_at, F_rows_at.kp, B_rows_at⟩
  exact ok_answers T F_answers D_Room_init D_rows_at D_answer_of
end Sk
/-! part Spk -/
namespace Sk
open PySem PySem.Spec PyProof.Rows L2 Evl
theorem spec_is {K : PySem.W.Frag} {H : Hp} {a : Addr} {l : List Int} {cs : List (List (List Int))} {Q : VK} {E : XK} (hs : SqL K H a (l.map V.int)) (e1 : l = PyFlat.put cs) (e2 : ∀ c ∈ cs, Mi.COk c) (e3 : PyFlat.told (PyFlat.played Mi.stepC Mi.Ro.fresh cs) = PyVberac.answers l) (e4 : (PyVberac.answers l).length ≤ 10000000)
    (q : ∀ (H' : Hp) (p : Addr), H' p = some (.lst ((PyVberac.answers l).map V.int)) → Q (.ref p) H') : spAns K [.ref a] H Q E := by
  refine ⟨H, _, Ex.refl H, ⟨cs, .cons ⟨a, _, rfl, hs, ?_⟩ .nil, ⟨e2, by rw [e3]; exact e4⟩, rfl⟩, fun v G2 H2 g hv => ?_⟩
  · rw [← e1]
    exact All2.ofVals _ _
  · obtain ⟨p, xs, rfl, hp, hx⟩ := hv
    have ex := All2.vals _ _ hx
    subst ex
    rw [e3] at hp
    exact q H2 p (g.gh p _ hp)
end Sk
open PySem PySem.W PyProof.Rows
set_option maxRecDepth 100000 in
set_option maxHeartbeats 0 in
theorem PySem.Challenge.cw_stickysensors_s01_answers_holds : PySem.Challenge.rw_stickysensors_s01_answers.Holds := by
  w_on; k_headS; (case hw => exact ⟨[.list [.int 17]], by decide +kernel, by decide +kernel⟩)
  k_fillS
  refine L2.walk_specK (r := PySem.Challenge.rw_stickysensors_s01_answers) (k := 15) (CX := L2.CX0) (ps := ["calls"]) (sp := Sk.spAns) (by decide +kernel) rfl rfl ⟨rfl, by decide, by decide⟩ (fun w h Y => PySem.W.kIn_of Y) ?F ?S (fun _ _ _ _ z => z)
  case F =>
    intro w mg fa h Y KX G hmg
    refine' Sk.all_mk KX G hmg ?c_P ?pg_P ?hd_P ?po_P ?sa_P ?mk_P ?kc_P ?c_S ?pg_S ?hd_S ?po_S ?sa_S ?mk_S ?kc_S ?c_R ?pg_R ?hd_R ?po_R ?sa_R ?mk_R ?kc_R ?n_P_size ?n_P_moves ?n_S_prop ?n_S_error ?n_S_first ?n_S_readings ?n_R_most ?n_R_begun ?n_R_now ?n_R_props ?n_R_sensors ?b_len ?b_abs ?b_max ?b_min ?b_sum ?b_all ?b_sorted ?b_range ?b_zip ?b_list ?g_LOOSE_room ?g_NOTHING_room ?g_HELD ?g_LOOSE_courses ?g_STUCK ?g_LAST_sights ?g_NOTHING_sights ?g_NONE ?g_LAST_acts ?g_PROPS ?g_SENSORS ?g_SENSORS_OF_ONE ?g_GREATEST ?g_NUMBERS ?t_NUMBERS ?g_ROWS ?t_ROWS ?a_Prop_init ?i_Prop_init ?F_Prop_init ?a_Sensor_init ?i_Sensor_init ?F_Sensor_init ?a_Room_init ?i_Room_init ?F_Room_init ?a_Room_begin ?i_Room_begin ?F_Room_begin ?a_Room_add_prop ?i_Room_add_prop ?F_Room_add_prop ?a_Room_add_sensor ?i_Room_add_sensor ?F_Room_add_sensor ?a_Room_go ?i_Room_go ?F_Room_go ?a_Room_step ?i_Room_step ?F_Room_step ?a_Room_mend ?i_Room_mend ?F_Room_mend ?a_Room_allow ?i_Room_allow ?F_Room_allow ?a_is_prop ?F_is_prop ?a_is_sensor ?F_is_sensor ?a_sensors_of ?F_sensors_of ?a_place_of ?F_place_of ?a_goes ?F_goes ?a_comes ?F_comes ?a_leads ?F_leads ?a_forward ?F_forward ?a_exists ?F_exists ?a_seats ?F_seats ?a_least_course ?F_least_course ?a_is_course ?F_is_course ?a_within ?F_within ?a_is_fault ?F_is_fault ?a_readings_from ?F_readings_from ?a_can_stick ?F_can_stick ?a_stuck_ticks ?F_stuck_ticks ?a_options ?F_options ?a_may_have ?F_may_have ?a_reading_about ?F_reading_about ?a_agrees ?F_agrees ?a_sight ?F_sight ?a_whole ?F_whole ?a_overlap ?F_overlap ?a_count_faults ?F_count_faults ?a_widened ?F_widened ?a_possible ?F_possible ?a_all_possible ?F_all_possible ?a_fewest_of ?F_fewest_of ?a_fewest_each ?F_fewest_each ?a_something ?F_something ?a_can_be ?F_can_be ?a_at_most ?F_at_most ?a_all_left ?F_all_left ?a_left_of ?F_left_of ?a_do_begin ?F_do_begin ?a_do_prop ?F_do_prop ?a_do_sensor ?F_do_sensor ?a_do_go ?F_do_go ?a_moves_are_right ?F_moves_are_right ?a_readings_are_right ?F_readings_are_right ?a_do_tick ?F_do_tick ?a_do_mend ?F_do_mend ?a_do_allow ?F_do_allow ?a_stands ?F_stands ?a_say_where ?F_say_where ?a_say_fewest ?F_say_fewest ?a_say_explain ?F_say_explain ?a_explains ?F_explains ?a_say_check ?F_say_check ?a_say_vote ?F_say_vote ?a_say_state ?F_say_state ?a_say_ways ?F_say_ways ?a_around ?F_around ?a_stuck_reads ?F_stuck_reads ?a_may_read ?F_may_read ?a_reads_ahead ?F_reads_ahead ?a_share ?F_share ?a_alike ?F_alike ?a_none_alike ?F_none_alike ?a_views_left ?F_views_left ?a_told_settle ?F_told_settle ?a_longer_rows ?F_longer_rows ?a_candidates ?F_candidates ?a_settles_now ?F_settles_now ?a_first_settling ?F_first_settling ?a_place_in_five ?F_place_in_five ?a_say_blame ?F_say_blame ?a_goes_on ?F_goes_on ?a_say_since ?F_say_since ?a_never_fine ?F_never_fine ?a_say_sure ?F_say_sure ?a_say_settle ?F_say_settle ?a_told_are_right ?F_told_are_right ?a_say_settles ?F_say_settles ?a_say_reads ?F_say_reads ?a_act ?F_act ?a_ask_prop ?F_ask_prop ?a_ask_sensor ?F_ask_sensor ?a_answer_of ?F_answer_of ?a_rows_at ?F_rows_at ?a_answers ?F_answers
    (case c_P => k_is)
    (case pg_P => k_is)
    (case hd_P => k_is)
    (case po_P => k_is)
    (case sa_P => k_is)
    (case mk_P => k_is)
    (case kc_P => k_is)
    (case c_S => k_is)
    (case pg_S => k_is)
    (case hd_S => k_is)
    (case po_S => k_is)
    (case sa_S => k_is)
    (case mk_S => k_is)
    (case kc_S => k_is)
    (case c_R => k_is)
    (case pg_R => k_is)
    (case hd_R => k_is)
    (case po_R => k_is)
    (case sa_R => k_is)
    (case mk_R => k_is)
    (case kc_R => k_is)
    (case n_P_size => k_is)
    (case n_P_moves => k_is)
    (case n_S_prop => k_is)
    (case n_S_error => k_is)
    (case n_S_first => k_is)
    (case n_S_readings => k_is)
    (case n_R_most => k_is)
    (case n_R_begun => k_is)
    (case n_R_now => k_is)
    (case n_R_props => k_is)
    (case n_R_sensors => k_is)
    (case b_len => k_is)
    (case b_abs => k_is)
    (case b_max => k_is)
    (case b_min => k_is)
    (case b_sum => k_is)
    (case b_all => k_is)
    (case b_sorted => k_is)
    (case b_range => k_is)
    (case b_zip => k_is)
    (case b_list => k_is)
    (case g_LOOSE_room => k_is)
    (case g_NOTHING_room => k_is)
    (case g_HELD => k_is)
    (case g_LOOSE_courses => k_is)
    (case g_STUCK => k_is)
    (case g_LAST_sights => k_is)
    (case g_NOTHING_sights => k_is)
    (case g_NONE => k_is)
    (case g_LAST_acts => k_is)
    (case g_PROPS => k_is)
    (case g_SENSORS => k_is)
    (case g_SENSORS_OF_ONE => k_is)
    (case g_GREATEST => k_is)
    (case g_NUMBERS => k_is)
    (case t_NUMBERS => (refine' Sk.tup_at ?l ?c ?k; (case l => k_is); (case c => decide); (case k => decide)))
    (case g_ROWS => k_is)
    (case t_ROWS => (refine' Sk.tup_at ?l ?c ?k; (case l => k_is); (case c => decide); (case k => decide)))
    (case a_Prop_init => k_is)
    (case i_Prop_init => k_is)
    (case F_Prop_init => (refine' Sk.fun_at ?l ?c ?k; (case l => k_is); (case c => k_is); (case k => k_is)))
    (case a_Sensor_init => k_is)
    (case i_Sensor_init => k_is)
    (case F_Sensor_init => (refine' Sk.fun_at ?l ?c ?k; (case l => k_is); (case c => k_is); (case k => k_is)))
    (case a_Room_init => k_is)
    (case i_Room_init => k_is)
    (case F_Room_init => (refine' Sk.fun_at ?l ?c ?k; (case l => k_is); (case c => k_is); (case k => k_is)))
    (case a_Room_begin => k_is)
    (case i_Room_begin => k_is)
    (case F_Room_begin => (refine' Sk.fun_at ?l ?c ?k; (case l => k_is); (case c => k_is); (case k => k_is)))
    (case a_Room_add_prop => k_is)
    (case i_Room_add_prop => k_is)
    (case F_Room_add_prop => (refine' Sk.fun_at ?l ?c ?k; (case l => k_is); (case c => k_is); (case k => k_is)))
    (case a_Room_add_sensor => k_is)
    (case i_Room_add_sensor => k_is)
    (case F_Room_add_sensor => (refine' Sk.fun_at ?l ?c ?k; (case l => k_is); (case c => k_is); (case k => k_is)))
    (case a_Room_go => k_is)
    (case i_Room_go => k_is)
    (case F_Room_go => (refine' Sk.fun_at ?l ?c ?k; (case l => k_is); (case c => k_is); (case k => k_is)))
    (case a_Room_step => k_is)
    (case i_Room_step => k_is)
    (case F_Room_step => (refine' Sk.fun_at ?l ?c ?k; (case l => k_is); (case c => k_is); (case k => k_is)))
    (case a_Room_mend => k_is)
    (case i_Room_mend => k_is)
    (case F_Room_mend => (refine' Sk.fun_at ?l ?c ?k; (case l => k_is); (case c => k_is); (case k => k_is)))
    (case a_Room_allow => k_is)
    (case i_Room_allow => k_is)
    (case F_Room_allow => (refine' Sk.fun_at ?l ?c ?k; (case l => k_is); (case c => k_is); (case k => k_is)))
    (case a_is_prop => k_is)
    (case F_is_prop => (refine' Sk.fun_at ?l ?c ?k; (case l => k_is); (case c => k_is); (case k => k_is)))
    (case a_is_sensor => k_is)
    (case F_is_sensor => (refine' Sk.fun_at ?l ?c ?k; (case l => k_is); (case c => k_is); (case k => k_is)))
    (case a_sensors_of => k_is)
    (case F_sensors_of => (refine' Sk.fun_at ?l ?c ?k; (case l => k_is); (case c => k_is); (case k => k_is)))
    (case a_place_of => k_is)
    (case F_place_of => (refine' Sk.fun_at ?l ?c ?k; (case l => k_is); (case c => k_is); (case k => k_is)))
    (case a_goes => k_is)
    (case F_goes => (refine' Sk.fun_at ?l ?c ?k; (case l => k_is); (case c => k_is); (case k => k_is)))
    (case a_comes => k_is)
    (case F_comes => (refine' Sk.fun_at ?l ?c ?k; (case l => k_is); (case c => k_is); (case k => k_is)))
    (case a_leads => k_is)
    (case F_leads => (refine' Sk.fun_at ?l ?c ?k; (case l => k_is); (case c => k_is); (case k => k_is)))
    (case a_forward => k_is)
    (case F_forward => (refine' Sk.fun_at ?l ?c ?k; (case l => k_is); (case c => k_is); (case k => k_is)))
    (case a_exists => k_is)
    (case F_exists => (refine' Sk.fun_at ?l ?c ?k; (case l => k_is); (case c => k_is); (case k => k_is)))
    (case a_seats => k_is)
    (case F_seats => (refine' Sk.fun_at ?l ?c ?k; (case l => k_is); (case c => k_is); (case k => k_is)))
    (case a_least_course => k_is)
    (case F_least_course => (refine' Sk.fun_at ?l ?c ?k; (case l => k_is); (case c => k_is); (case k => k_is)))
    (case a_is_course => k_is)
    (case F_is_course => (refine' Sk.fun_at ?l ?c ?k; (case l => k_is); (case c => k_is); (case k => k_is)))
    (case a_within => k_is)
    (case F_within => (refine' Sk.fun_at ?l ?c ?k; (case l => k_is); (case c => k_is); (case k => k_is)))
    (case a_is_fault => k_is)
    (case F_is_fault => (refine' Sk.fun_at ?l ?c ?k; (case l => k_is); (case c => k_is); (case k => k_is)))
    (case a_readings_from => k_is)
    (case F_readings_from => (refine' Sk.fun_at ?l ?c ?k; (case l => k_is); (case c => k_is); (case k => k_is)))
    (case a_can_stick => k_is)
    (case F_can_stick => (refine' Sk.fun_at ?l ?c ?k; (case l => k_is); (case c => k_is); (case k => k_is)))
    (case a_stuck_ticks => k_is)
    (case F_stuck_ticks => (refine' Sk.fun_at ?l ?c ?k; (case l => k_is); (case c => k_is); (case k => k_is)))
    (case a_options => k_is)
    (case F_options => (refine' Sk.fun_at ?l ?c ?k; (case l => k_is); (case c => k_is); (case k => k_is)))
    (case a_may_have => k_is)
    (case F_may_have => (refine' Sk.fun_at ?l ?c ?k; (case l => k_is); (case c => k_is); (case k => k_is)))
    (case a_reading_about => k_is)
    (case F_reading_about => (refine' Sk.fun_at ?l ?c ?k; (case l => k_is); (case c => k_is); (case k => k_is)))
    (case a_agrees => k_is)
    (case F_agrees => (refine' Sk.fun_at ?l ?c ?k; (case l => k_is); (case c => k_is); (case k => k_is)))
    (case a_sight => k_is)
    (case F_sight => (refine' Sk.fun_at ?l ?c ?k; (case l => k_is); (case c => k_is); (case k => k_is)))
    (case a_whole => k_is)
    (case F_whole => (refine' Sk.fun_at ?l ?c ?k; (case l => k_is); (case c => k_is); (case k => k_is)))
    (case a_overlap => k_is)
    (case F_overlap => (refine' Sk.fun_at ?l ?c ?k; (case l => k_is); (case c => k_is); (case k => k_is)))
    (case a_count_faults => k_is)
    (case F_count_faults => (refine' Sk.fun_at ?l ?c ?k; (case l => k_is); (case c => k_is); (case k => k_is)))
    (case a_widened => k_is)
    (case F_widened => (refine' Sk.fun_at ?l ?c ?k; (case l => k_is); (case c => k_is); (case k => k_is)))
    (case a_possible => k_is)
    (case F_possible => (refine' Sk.fun_at ?l ?c ?k; (case l => k_is); (case c => k_is); (case k => k_is)))
    (case a_all_possible => k_is)
    (case F_all_possible => (refine' Sk.fun_at ?l ?c ?k; (case l => k_is); (case c => k_is); (case k => k_is)))
    (case a_fewest_of => k_is)
    (case F_fewest_of => (refine' Sk.fun_at ?l ?c ?k; (case l => k_is); (case c => k_is); (case k => k_is)))
    (case a_fewest_each => k_is)
    (case F_fewest_each => (refine' Sk.fun_at ?l ?c ?k; (case l => k_is); (case c => k_is); (case k => k_is)))
    (case a_something => k_is)
    (case F_something => (refine' Sk.fun_at ?l ?c ?k; (case l => k_is); (case c => k_is); (case k => k_is)))
    (case a_can_be => k_is)
    (case F_can_be => (refine' Sk.fun_at ?l ?c ?k; (case l => k_is); (case c => k_is); (case k => k_is)))
    (case a_at_most => k_is)
    (case F_at_most => (refine' Sk.fun_at ?l ?c ?k; (case l => k_is); (case c => k_is); (case k => k_is)))
    (case a_all_left => k_is)
    (case F_all_left => (refine' Sk.fun_at ?l ?c ?k; (case l => k_is); (case c => k_is); (case k => k_is)))
    (case a_left_of => k_is)
    (case F_left_of => (refine' Sk.fun_at ?l ?c ?k; (case l => k_is); (case c => k_is); (case k => k_is)))
    (case a_do_begin => k_is)
    (case F_do_begin => (refine' Sk.fun_at ?l ?c ?k; (case l => k_is); (case c => k_is); (case k => k_is)))
    (case a_do_prop => k_is)
    (case F_do_prop => (refine' Sk.fun_at ?l ?c ?k; (case l => k_is); (case c => k_is); (case k => k_is)))
    (case a_do_sensor => k_is)
    (case F_do_sensor => (refine' Sk.fun_at ?l ?c ?k; (case l => k_is); (case c => k_is); (case k => k_is)))
    (case a_do_go => k_is)
    (case F_do_go => (refine' Sk.fun_at ?l ?c ?k; (case l => k_is); (case c => k_is); (case k => k_is)))
    (case a_moves_are_right => k_is)
    (case F_moves_are_right => (refine' Sk.fun_at ?l ?c ?k; (case l => k_is); (case c => k_is); (case k => k_is)))
    (case a_readings_are_right => k_is)
    (case F_readings_are_right => (refine' Sk.fun_at ?l ?c ?k; (case l => k_is); (case c => k_is); (case k => k_is)))
    (case a_do_tick => k_is)
    (case F_do_tick => (refine' Sk.fun_at ?l ?c ?k; (case l => k_is); (case c => k_is); (case k => k_is)))
    (case a_do_mend => k_is)
    (case F_do_mend => (refine' Sk.fun_at ?l ?c ?k; (case l => k_is); (case c => k_is); (case k => k_is)))
    (case a_do_allow => k_is)
    (case F_do_allow => (refine' Sk.fun_at ?l ?c ?k; (case l => k_is); (case c => k_is); (case k => k_is)))
    (case a_stands => k_is)
    (case F_stands => (refine' Sk.fun_at ?l ?c ?k; (case l => k_is); (case c => k_is); (case k => k_is)))
    (case a_say_where => k_is)
    (case F_say_where => (refine' Sk.fun_at ?l ?c ?k; (case l => k_is); (case c => k_is); (case k => k_is)))
    (case a_say_fewest => k_is)
    (case F_say_fewest => (refine' Sk.fun_at ?l ?c ?k; (case l => k_is); (case c => k_is); (case k => k_is)))
    (case a_say_explain => k_is)
    (case F_say_explain => (refine' Sk.fun_at ?l ?c ?k; (case l => k_is); (case c => k_is); (case k => k_is)))
    (case a_explains => k_is)
    (case F_explains => (refine' Sk.fun_at ?l ?c ?k; (case l => k_is); (case c => k_is); (case k => k_is)))
    (case a_say_check => k_is)
    (case F_say_check => (refine' Sk.fun_at ?l ?c ?k; (case l => k_is); (case c => k_is); (case k => k_is)))
    (case a_say_vote => k_is)
    (case F_say_vote => (refine' Sk.fun_at ?l ?c ?k; (case l => k_is); (case c => k_is); (case k => k_is)))
    (case a_say_state => k_is)
    (case F_say_state => (refine' Sk.fun_at ?l ?c ?k; (case l => k_is); (case c => k_is); (case k => k_is)))
    (case a_say_ways => k_is)
    (case F_say_ways => (refine' Sk.fun_at ?l ?c ?k; (case l => k_is); (case c => k_is); (case k => k_is)))
    (case a_around => k_is)
    (case F_around => (refine' Sk.fun_at ?l ?c ?k; (case l => k_is); (case c => k_is); (case k => k_is)))
    (case a_stuck_reads => k_is)
    (case F_stuck_reads => (refine' Sk.fun_at ?l ?c ?k; (case l => k_is); (case c => k_is); (case k => k_is)))
    (case a_may_read => k_is)
    (case F_may_read => (refine' Sk.fun_at ?l ?c ?k; (case l => k_is); (case c => k_is); (case k => k_is)))
    (case a_reads_ahead => k_is)
    (case F_reads_ahead => (refine' Sk.fun_at ?l ?c ?k; (case l => k_is); (case c => k_is); (case k => k_is)))
    (case a_share => k_is)
    (case F_share => (refine' Sk.fun_at ?l ?c ?k; (case l => k_is); (case c => k_is); (case k => k_is)))
    (case a_alike => k_is)
    (case F_alike => (refine' Sk.fun_at ?l ?c ?k; (case l => k_is); (case c => k_is); (case k => k_is)))
    (case a_none_alike => k_is)
    (case F_none_alike => (refine' Sk.fun_at ?l ?c ?k; (case l => k_is); (case c => k_is); (case k => k_is)))
    (case a_views_left => k_is)
    (case F_views_left => (refine' Sk.fun_at ?l ?c ?k; (case l => k_is); (case c => k_is); (case k => k_is)))
    (case a_told_settle => k_is)
    (case F_told_settle => (refine' Sk.fun_at ?l ?c ?k; (case l => k_is); (case c => k_is); (case k => k_is)))
    (case a_longer_rows => k_is)
    (case F_longer_rows => (refine' Sk.fun_at ?l ?c ?k; (case l => k_is); (case c => k_is); (case k => k_is)))
    (case a_candidates => k_is)
    (case F_candidates => (refine' Sk.fun_at ?l ?c ?k; (case l => k_is); (case c => k_is); (case k => k_is)))
    (case a_settles_now => k_is)
    (case F_settles_now => (refine' Sk.fun_at ?l ?c ?k; (case l => k_is); (case c => k_is); (case k => k_is)))
    (case a_first_settling => k_is)
    (case F_first_settling => (refine' Sk.fun_at ?l ?c ?k; (case l => k_is); (case c => k_is); (case k => k_is)))
    (case a_place_in_five => k_is)
    (case F_place_in_five => (refine' Sk.fun_at ?l ?c ?k; (case l => k_is); (case c => k_is); (case k => k_is)))
    (case a_say_blame => k_is)
    (case F_say_blame => (refine' Sk.fun_at ?l ?c ?k; (case l => k_is); (case c => k_is); (case k => k_is)))
    (case a_goes_on => k_is)
    (case F_goes_on => (refine' Sk.fun_at ?l ?c ?k; (case l => k_is); (case c => k_is); (case k => k_is)))
    (case a_say_since => k_is)
    (case F_say_since => (refine' Sk.fun_at ?l ?c ?k; (case l => k_is); (case c => k_is); (case k => k_is)))
    (case a_never_fine => k_is)
    (case F_never_fine => (refine' Sk.fun_at ?l ?c ?k; (case l => k_is); (case c => k_is); (case k => k_is)))
    (case a_say_sure => k_is)
    (case F_say_sure => (refine' Sk.fun_at ?l ?c ?k; (case l => k_is); (case c => k_is); (case k => k_is)))
    (case a_say_settle => k_is)
    (case F_say_settle => (refine' Sk.fun_at ?l ?c ?k; (case l => k_is); (case c => k_is); (case k => k_is)))
    (case a_told_are_right => k_is)
    (case F_told_are_right => (refine' Sk.fun_at ?l ?c ?k; (case l => k_is); (case c => k_is); (case k => k_is)))
    (case a_say_settles => k_is)
    (case F_say_settles => (refine' Sk.fun_at ?l ?c ?k; (case l => k_is); (case c => k_is); (case k => k_is)))
    (case a_say_reads => k_is)
    (case F_say_reads => (refine' Sk.fun_at ?l ?c ?k; (case l => k_is); (case c => k_is); (case k => k_is)))
    (case a_act => k_is)
    (case F_act => (refine' Sk.fun_at ?l ?c ?k; (case l => k_is); (case c => k_is); (case k => k_is)))
    (case a_ask_prop => k_is)
    (case F_ask_prop => (refine' Sk.fun_at ?l ?c ?k; (case l => k_is); (case c => k_is); (case k => k_is)))
    (case a_ask_sensor => k_is)
    (case F_ask_sensor => (refine' Sk.fun_at ?l ?c ?k; (case l => k_is); (case c => k_is); (case k => k_is)))
    (case a_answer_of => k_is)
    (case F_answer_of => (refine' Sk.fun_at ?l ?c ?k; (case l => k_is); (case c => k_is); (case k => k_is)))
    (case a_rows_at => k_is)
    (case F_rows_at => (refine' Sk.fun_at ?l ?c ?k; (case l => k_is); (case c => k_is); (case k => k_is)))
    (case a_answers => k_is)
    (case F_answers => (refine' Sk.fun_at ?l ?c ?k; (case l => k_is); (case c => k_is); (case k => k_is)))
  case S =>
    intro K H xs a hO hwi hask hx
    cases hx with
    | cons h1 h2 =>
      cases h2
      cases h1 with
      | lst hs ha =>
        have e := L2.ints_dw a.1 _ ha
        subst e
        obtain ⟨cs, e1, e2, e3, e4⟩ := Sk.law a.1 hask
        exact Sk.spec_is hs e1 e2 e3 e4 fun H' p hp => .lst (L2.SqL.of hp) (L2.dw_ints _)
#print axioms PySem.Challenge.cw_stickysensors_s01_answers_holds
