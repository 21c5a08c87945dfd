import PyProof.Rows.All
import Wide.All
import OpenK.AllK
import Wide.FinOn
import HandS.ForMost
import HandS.Evl
import HandS.Conv
import HandS.Deep
import HandS.IsInst
import HandS.TupAny
import HandS.Wide
import HandS.Codes
import HandS.EndBits
import PySem.Challenge.RW_wishcount_k02_leads
set_option Elab.async false
set_option linter.all false
set_option maxRecDepth 100000
set_option maxHeartbeats 8000000
/-! What stands in the heap as data that never changes (tuples of tuples .. of ints), and what evaluates to such. -/
namespace Wd
open PySem PySem.Spec PyProof.Rows L2 Evl

mutual
inductive Rp (H : Hp) : V → PyData → Prop
  | non : Rp H .non .none
  | bl (b : Bool) : Rp H (.bl b) (.bool b)
  | int (i : Int) : Rp H (.int i) (.int i)
  | str (x : Str) : Rp H (.str x) (.str x)
  | tup {a : Addr} {xs : List V} {ds : List PyData} : H a = some (.tup xs) → RpA H xs ds → Rp H (.ref a) (.tuple ds)
inductive RpA (H : Hp) : List V → List PyData → Prop
  | nil : RpA H [] []
  | cons {v : V} {vs : List V} {d : PyData} {ds : List PyData} : Rp H v d → RpA H vs ds → RpA H (v :: vs) (d :: ds)
end

/-- tuples stay -/
def Tx (H H' : Hp) : Prop := ∀ a xs, H a = some (.tup xs) → H' a = some (.tup xs)
theorem Tx.refl (H : Hp) : Tx H H := fun _ _ h => h
theorem Tx.trans {H H1 H2 : Hp} (a : Tx H H1) (b : Tx H1 H2) : Tx H H2 := fun x o h => b x o (a x o h)
theorem Tx.of {H H' : Hp} (e : Ex H H') : Tx H H' := fun a xs h => e a _ h
def NoT : HO → Prop
  | .tup _ => False
  | _ => True
theorem Tx.upd {H : Hp} {p : Addr} {o o' : HO} (h : H p = some o) (n : NoT o) : Tx H (upd H p o') := fun a xs e => by
  by_cases ha : a = p
  · subst ha
    rw [h] at e
    cases e
    exact n.elim
  · rw [upd_ne ha]
    exact e
theorem Tx.new {H : Hp} {p : Addr} {o : HO} (h : H p = none) : Tx H (L2.upd H p o) := Tx.of (Ex.new h)

mutual
theorem Rp.tx {H H' : Hp} (e : Tx H H') : ∀ (d : PyData) (v : V), Rp H v d → Rp H' v d
  | .none, _, h => by cases h; exact .non
  | .bool b, _, h => by cases h; exact .bl b
  | .int i, _, h => by cases h; exact .int i
  | .str x, _, h => by cases h; exact .str x
  | .tuple ds, _, h => by
    cases h with
    | tup h1 h2 => exact .tup (e _ _ h1) (RpA.tx e ds _ h2)
  | .list ds, _, h => by cases h
  | .dict ds, _, h => by cases h
theorem RpA.tx {H H' : Hp} (e : Tx H H') : ∀ (ds : List PyData) (vs : List V), RpA H vs ds → RpA H' vs ds
  | [], _, h => by cases h; exact .nil
  | d :: ds, _, h => by
    cases h with
    | cons h1 h2 => exact .cons (Rp.tx e d _ h1) (RpA.tx e ds _ h2)
end
theorem Rp.up {H H' : Hp} {d : PyData} {v : V} (h : Rp H v d) (e : Tx H H') : Rp H' v d := Rp.tx e d v h
theorem RpA.up {H H' : Hp} {ds : List PyData} {vs : List V} (h : RpA H vs ds) (e : Tx H H') : RpA H' vs ds := RpA.tx e ds vs h
theorem Rp.ex {H H' : Hp} {d : PyData} {v : V} (h : Rp H v d) (e : Ex H H') : Rp H' v d := h.up (.of e)
theorem RpA.ex {H H' : Hp} {ds : List PyData} {vs : List V} (h : RpA H vs ds) (e : Ex H H') : RpA H' vs ds := h.up (.of e)

mutual
theorem Rp.dp {K : PySem.W.Frag} {H : Hp} : ∀ (d : PyData) (v : V), Rp H v d → Dp K H v d
  | .none, _, h => by cases h; exact .non
  | .bool b, _, h => by cases h; exact .bl b
  | .int i, _, h => by cases h; exact .int i
  | .str x, _, h => by cases h; exact .str x
  | .tuple ds, _, h => by
    cases h with
    | tup h1 h2 => exact .tup (SqT.of h1) (RpA.dp ds _ h2)
  | .list ds, _, h => by cases h
  | .dict ds, _, h => by cases h
theorem RpA.dp {K : PySem.W.Frag} {H : Hp} : ∀ (ds : List PyData) (vs : List V), RpA H vs ds → DpAll K H vs ds
  | [], _, h => by cases h; exact .nil
  | d :: ds, _, h => by
    cases h with
    | cons h1 h2 => exact .cons (Rp.dp d _ h1) (RpA.dp ds _ h2)
end

theorem RpA.len {H : Hp} : ∀ {ds : List PyData} {vs : List V}, RpA H vs ds → vs.length = ds.length
  | [], _, h => by cases h; rfl
  | d :: ds, _, h => by
    cases h with
    | cons h1 h2 => simp [RpA.len h2]
theorem RpA.get {H : Hp} : ∀ {ds : List PyData} {vs : List V} {i : Nat} {d : PyData}, RpA H vs ds → ds[i]? = some d → ∃ v, vs[i]? = some v ∧ Rp H v d
  | [], _, _, _, _, e => by simp at e
  | d :: ds, _, i, d', h, e => by
    cases h with
    | cons h1 h2 =>
      cases i with
      | zero => simp at e; subst e; exact ⟨_, rfl, h1⟩
      | succ i => exact RpA.get (i := i) h2 (by simpa using e)
theorem RpA.getV {H : Hp} : ∀ {ds : List PyData} {vs : List V} {i : Nat} {v : V}, RpA H vs ds → vs[i]? = some v → ∃ d, ds[i]? = some d ∧ Rp H v d
  | [], _, _, _, h, e => by cases h; simp at e
  | d :: ds, _, i, v, h, e => by
    cases h with
    | cons h1 h2 =>
      cases i with
      | zero => simp at e; subst e; exact ⟨_, rfl, h1⟩
      | succ i => exact RpA.getV (i := i) h2 (by simpa using e)
theorem RpA.append {H : Hp} : ∀ {ds es : List PyData} {vs ws : List V}, RpA H vs ds → RpA H ws es → RpA H (vs ++ ws) (ds ++ es)
  | [], _, _, _, h, k => by cases h; exact k
  | d :: ds, _, _, _, h, k => by
    cases h with
    | cons h1 h2 => exact .cons h1 (RpA.append h2 k)
theorem RpA.take {H : Hp} : ∀ {ds : List PyData} {vs : List V} (n : Nat), RpA H vs ds → RpA H (vs.take n) (ds.take n)
  | [], _, _, h => by cases h; simp; exact .nil
  | d :: ds, _, 0, h => by simp; exact .nil
  | d :: ds, _, n + 1, h => by
    cases h with
    | cons h1 h2 => exact .cons h1 (RpA.take n h2)
theorem RpA.drop {H : Hp} : ∀ {ds : List PyData} {vs : List V} (n : Nat), RpA H vs ds → RpA H (vs.drop n) (ds.drop n)
  | [], _, _, h => by cases h; simp; exact .nil
  | d :: ds, _, 0, h => h
  | d :: ds, _, n + 1, h => by
    cases h with
    | cons h1 h2 => exact RpA.drop n h2
theorem RpA.one {H : Hp} {v : V} {d : PyData} (h : Rp H v d) : RpA H [v] [d] := .cons h .nil
theorem RpA.set {H : Hp} {v : V} {d : PyData} (h : Rp H v d) : ∀ {ds : List PyData} {vs : List V} (i : Nat), RpA H vs ds → RpA H (vs.set i v) (ds.set i d)
  | [], _, _, k => by cases k; exact .nil
  | _ :: _, _, 0, k => by
    cases k with
    | cons h1 h2 => exact .cons h h2
  | _ :: _, _, i + 1, k => by
    cases k with
    | cons h1 h2 => exact .cons h1 (RpA.set h i h2)
theorem RpA.erase {H : Hp} : ∀ {ds : List PyData} {vs : List V} (i : Nat), RpA H vs ds → RpA H (vs.eraseIdx i) (ds.eraseIdx i)
  | [], _, _, k => by cases k; exact .nil
  | _ :: _, _, 0, k => by
    cases k with
    | cons h1 h2 => exact h2
  | _ :: _, _, i + 1, k => by
    cases k with
    | cons h1 h2 => exact .cons h1 (RpA.erase i h2)
/-- ints -/
theorem Rp.intE {H : Hp} {v : V} {i : Int} (h : Rp H v (.int i)) : v = .int i := by cases h; rfl
theorem Rp.blE {H : Hp} {v : V} {b : Bool} (h : Rp H v (.bool b)) : v = .bl b := by cases h; rfl
theorem Rp.nonE {H : Hp} {v : V} (h : Rp H v .none) : v = .non := by cases h; rfl
theorem Rp.tupE {H : Hp} {v : V} {ds : List PyData} (h : Rp H v (.tuple ds)) : ∃ a xs, v = .ref a ∧ H a = some (.tup xs) ∧ RpA H xs ds := by
  cases h with
  | tup h1 h2 => exact ⟨_, _, rfl, h1, h2⟩
theorem RpA.intsE {H : Hp} : ∀ {ns : List Int} {vs : List V}, RpA H vs (ns.map PyData.int) → vs = ns.map V.int
  | [], _, h => by cases h; rfl
  | n :: ns, _, h => by
    cases h with
    | cons h1 h2 => rw [h1.intE, RpA.intsE h2]; rfl
theorem RpA.ints {H : Hp} : ∀ ns : List Int, RpA H (ns.map V.int) (ns.map PyData.int)
  | [] => .nil
  | n :: ns => .cons (.int n) (RpA.ints ns)
theorem RpA.blsE {H : Hp} : ∀ {ns : List Bool} {vs : List V}, RpA H vs (ns.map PyData.bool) → vs = ns.map V.bl
  | [], _, h => by cases h; rfl
  | n :: ns, _, h => by
    cases h with
    | cons h1 h2 => rw [h1.blE, RpA.blsE h2]; rfl
theorem RpA.nilE {H : Hp} {vs : List V} (h : RpA H vs []) : vs = [] := by cases h; rfl
theorem RpA.consE {H : Hp} {vs : List V} {d : PyData} {ds : List PyData} (h : RpA H vs (d :: ds)) : ∃ v ws, vs = v :: ws ∧ Rp H v d ∧ RpA H ws ds := by
  cases h with
  | cons h1 h2 => exact ⟨_, _, rfl, h1, h2⟩
theorem RpA.e1 {H : Hp} {vs : List V} {d : PyData} (h : RpA H vs [d]) : ∃ v, vs = [v] ∧ Rp H v d := by
  obtain ⟨v, ws, rfl, h1, h2⟩ := h.consE
  rw [h2.nilE]
  exact ⟨v, rfl, h1⟩
theorem RpA.e2 {H : Hp} {vs : List V} {d1 d2 : PyData} (h : RpA H vs [d1, d2]) : ∃ v1 v2, vs = [v1, v2] ∧ Rp H v1 d1 ∧ Rp H v2 d2 := by
  obtain ⟨v, ws, rfl, h1, h2⟩ := h.consE
  obtain ⟨v2, rfl, h3⟩ := h2.e1
  exact ⟨v, v2, rfl, h1, h3⟩
theorem RpA.e3 {H : Hp} {vs : List V} {d1 d2 d3 : PyData} (h : RpA H vs [d1, d2, d3]) : ∃ v1 v2 v3, vs = [v1, v2, v3] ∧ Rp H v1 d1 ∧ Rp H v2 d2 ∧ Rp H v3 d3 := by
  obtain ⟨v, ws, rfl, h1, h2⟩ := h.consE
  obtain ⟨v2, v3, rfl, h3, h4⟩ := h2.e2
  exact ⟨v, v2, v3, rfl, h1, h3, h4⟩
theorem RpA.e4 {H : Hp} {vs : List V} {d1 d2 d3 d4 : PyData} (h : RpA H vs [d1, d2, d3, d4]) : ∃ v1 v2 v3 v4, vs = [v1, v2, v3, v4] ∧ Rp H v1 d1 ∧ Rp H v2 d2 ∧ Rp H v3 d3 ∧ Rp H v4 d4 := by
  obtain ⟨v, ws, rfl, h1, h2⟩ := h.consE
  obtain ⟨v2, v3, v4, rfl, h3, h4, h5⟩ := h2.e3
  exact ⟨v, v2, v3, v4, rfl, h1, h3, h4, h5⟩

/-- a list of data -/
def LAt (H : Hp) (p : Addr) (ds : List PyData) : Prop := ∃ vs, H p = some (.lst vs) ∧ RpA H vs ds
theorem LAt.ex {H H' : Hp} {p : Addr} {ds : List PyData} (h : LAt H p ds) (e : Ex H H') : LAt H' p ds := by
  obtain ⟨vs, h1, h2⟩ := h
  exact ⟨vs, e _ _ h1, h2.ex e⟩

/-! ### what evaluates to what -/
def ED (te : TE) (σ : L2.St) (H : Hp) (d : PyData) : Prop := ∀ H1, Ex H H1 → ∀ Q : VK, (∀ v H2, Ex H1 H2 → Rp H2 v d → Q v H2) → te σ H1 Q
def EL (te : TE) (σ : L2.St) (H : Hp) (ds : List PyData) : Prop := ∀ H1, Ex H H1 → ∀ Q : VK, (∀ p H2, H1 p = none → Ex H1 H2 → LAt H2 p ds → Q (.ref p) H2) → te σ H1 Q
def EA (ta : TA) (σ : L2.St) (H : Hp) (ds : List PyData) : Prop := ∀ H1, Ex H H1 → ∀ Q : List V → Hp → Prop, (∀ vs H2, Ex H1 H2 → RpA H2 vs ds → Q vs H2) → ta σ H1 Q

section
variable {K : PySem.W.Frag} {σ : L2.St} {H H' : Hp} {ta tb te tx : TE} {t u : TT} {v w : V} {d e d1 d2 : PyData} {ds es : List PyData} {i j : Int} {b c : Bool}
theorem ED.mono (e : Ex H H') (h : ED te σ H d) : ED te σ H' d := fun H1 a Q q => h H1 (e.trans a) Q q
theorem EL.mono (e : Ex H H') (h : EL te σ H ds) : EL te σ H' ds := fun H1 a Q q => h H1 (e.trans a) Q q
theorem EA.mono {ta : TA} (e : Ex H H') (h : EA ta σ H ds) : EA ta σ H' ds := fun H1 a Q q => h H1 (e.trans a) Q q
theorem ED.is (h : ED te σ H d) (q : d = e) : ED te σ H e := q ▸ h
theorem EL.is (h : EL te σ H ds) (q : ds = es) : EL te σ H es := q ▸ h
theorem ed_var {k : Nat} (h : σ[k]? = some (some v)) (r : Rp H v d) : ED (tVar k) σ H d := fun H1 x Q q => ⟨v, h, q v H1 (Ex.refl H1) (r.ex x)⟩
theorem ed_int : ED (tC (.int i)) σ H (.int i) := fun H1 _ _ q => q _ H1 (Ex.refl H1) (.int i)
theorem ed_non : ED (tC .non) σ H .none := fun H1 _ _ q => q _ H1 (Ex.refl H1) .non
theorem ed_bl : ED (tC (.bl b)) σ H (.bool b) := fun H1 _ _ q => q _ H1 (Ex.refl H1) (.bl b)
theorem ed_str {x : Str} : ED (tC (.str x)) σ H (.str x) := fun H1 _ _ q => q _ H1 (Ex.refl H1) (.str x)
theorem ed_ev (h : Ev te σ H v) (r : Rp H v d) : ED te σ H d := fun H1 x Q q => h H1 x Q fun H2 x2 => q v H2 x2 (r.ex (x.trans x2))
theorem ev_ed (h : ED te σ H (.int i)) : Ev te σ H (.int i) := fun H1 x Q q => h H1 x Q fun v H2 x2 r => by rw [r.intE]; exact q H2 x2
theorem ea_nil : EA tNil σ H [] := fun H1 _ _ q => q [] H1 (Ex.refl H1) .nil
theorem ea_cons {tr : TA} (h : ED ta σ H d) (hr : EA tr σ H ds) : EA (tCons ta tr) σ H (d :: ds) := fun H1 x _ q =>
  h H1 x _ fun v H2 x2 r => hr H2 (x.trans x2) _ fun vs H3 x3 rs => q (v :: vs) H3 (x2.trans x3) (.cons (r.ex x3) rs)
theorem ed_tup {ta : TA} (h : EA ta σ H ds) (hl : ds.length ≤ 100000) : ED (tTup ta) σ H (.tuple ds) := fun H1 x _ q =>
  h H1 x _ fun vs H2 x2 r => ⟨sz_of (by rw [r.len]; exact hl), fun p hp => q _ _ (x2.trans (Ex.new hp)) (.tup upd_same (r.up (Tx.new hp)))⟩
theorem el_lst {ta : TA} (h : EA ta σ H ds) (hl : ds.length ≤ 100000) : EL (tLst ta) σ H ds := fun H1 x _ q =>
  h H1 x _ fun vs H2 x2 r => ⟨sz_of (by rw [r.len]; exact hl), fun p hp => q _ _ (fresh_back x2 hp) (x2.trans (Ex.new hp)) ⟨vs, upd_same, r.up (Tx.new hp)⟩⟩
theorem ed_I {f : Int → Int → Int} (ha : ED ta σ H (.int i)) (hb : ED tb σ H (.int j)) : ED (tOp (rI0 fun i j => .int (f i j)) ta tb) σ H (.int (f i j)) := fun H1 x _ q =>
  ha H1 x _ fun v H2 x2 r => hb H2 (x.trans x2) _ fun w H3 x3 s => ⟨i, j, r.intE, s.intE, q _ H3 (x2.trans x3) (.int _)⟩
theorem ed_IC {C : Int → Int → Prop} {f : Int → Int → Int} (ha : ED ta σ H (.int i)) (hb : ED tb σ H (.int j)) (hc : C i j) : ED (tOp (rI C fun i j => .int (f i j)) ta tb) σ H (.int (f i j)) := fun H1 x _ q =>
  ha H1 x _ fun v H2 x2 r => hb H2 (x.trans x2) _ fun w H3 x3 s => ⟨i, j, r.intE, s.intE, hc, q _ H3 (x2.trans x3) (.int _)⟩
theorem ed_B {f : Int → Int → Bool} (ha : ED ta σ H (.int i)) (hb : ED tb σ H (.int j)) : ED (tOp (rI0 fun i j => .bl (f i j)) ta tb) σ H (.bool (f i j)) := fun H1 x _ q =>
  ha H1 x _ fun v H2 x2 r => hb H2 (x.trans x2) _ fun w H3 x3 s => ⟨i, j, r.intE, s.intE, q _ H3 (x2.trans x3) (.bl _)⟩
theorem ed_un {f : Int → Int} (ha : ED ta σ H (.int i)) : ED (tUn (rU fun i => .int (f i)) ta) σ H (.int (f i)) := fun H1 x _ q =>
  ha H1 x _ fun v H2 x2 r => ⟨i, r.intE, q _ H2 x2 (.int _)⟩
/-- t[i] of a tuple -/
theorem ed_ix {k : Nat} (ha : ED ta σ H (.tuple ds)) (hb : ED tb σ H (.int (k : Int))) (hk : ds[k]? = some d) : ED (tOp (rIxT K) ta tb) σ H d := fun H1 x _ q =>
  ha H1 x _ fun v H2 x2 r => hb H2 (x.trans x2) _ fun w H3 x3 s => by
    obtain ⟨a, xs, rfl, ha', rs⟩ := (r.ex x3).tupE
    obtain ⟨y, hy, ry⟩ := rs.get hk
    exact ⟨a, xs, (k : Int), y, rfl, s.intE, SqT.of ha', atI_nat hy, q y H3 (x2.trans x3) ry⟩
/-- the last item -/
theorem ed_ixI (ha : ED ta σ H (.tuple ds)) (hb : ED tb σ H (.int i)) (hk : atI ds i = some d) : ED (tOp (rIxT K) ta tb) σ H d := fun H1 x _ q =>
  ha H1 x _ fun v H2 x2 r => hb H2 (x.trans x2) _ fun w H3 x3 s => by
    obtain ⟨a, xs, rfl, ha', rs⟩ := (r.ex x3).tupE
    unfold atI at hk
    rw [← rs.len] at hk
    cases hn : ixN xs.length i with
    | none => rw [hn] at hk; cases hk
    | some m =>
      rw [hn] at hk
      obtain ⟨y, hy, ry⟩ := rs.get (i := m) hk
      refine ⟨a, xs, i, y, rfl, s.intE, SqT.of ha', ?_, q y H3 (x2.trans x3) ry⟩
      unfold atI
      rw [hn]
      exact hy
/-- l[i] of a list that a name holds -/
theorem ed_ixL {k : Nat} {p : Addr} (ha : Ev ta σ H (.ref p)) (hp : LAt H p ds) (hb : ED tb σ H (.int (k : Int))) (hk : ds[k]? = some d) : ED (tOp (rIxL K) ta tb) σ H d := fun H1 x _ q =>
  ha H1 x _ fun H2 x2 => hb H2 (x.trans x2) _ fun w H3 x3 s => by
    obtain ⟨xs, ha', rs⟩ := hp.ex ((x.trans x2).trans x3)
    obtain ⟨y, hy, ry⟩ := rs.get hk
    exact ⟨p, xs, (k : Int), y, rfl, s.intE, SqL.of ha', atI_nat hy, q y H3 (x2.trans x3) ry⟩
/-- [a, b, ..][i], the list made on the way -/
theorem ed_ixN {k : Nat} (ha : EL ta σ H ds) (hb : ED tb σ H (.int (k : Int))) (hk : ds[k]? = some d) : ED (tOp (rIxL K) ta tb) σ H d := fun H1 x _ q =>
  ha H1 x _ fun p H2 _ x2 hp => hb H2 (x.trans x2) _ fun w H3 x3 s => by
    obtain ⟨xs, ha', rs⟩ := hp.ex x3
    obtain ⟨y, hy, ry⟩ := rs.get hk
    exact ⟨p, xs, (k : Int), y, rfl, s.intE, SqL.of ha', atI_nat hy, q y H3 (x2.trans x3) ry⟩

/-! ### built-ins -/
theorem ed_cb {r : List V → Hp → VK → Prop} {ta : TA} (h : EA ta σ H ds) (hr : ∀ vs H1, Ex H H1 → RpA H1 vs ds → ∀ Q : VK, (∀ v H2, Ex H1 H2 → Rp H2 v d → Q v H2) → r vs H1 Q) : ED (tCB r ta) σ H d := fun H1 x Q q =>
  h H1 x _ fun vs H2 x2 r => hr vs H2 (x.trans x2) r Q fun v H3 x3 s => q v H3 (x2.trans x3) s
theorem ed_cbL {r : List V → Hp → VK → Prop} (h : EL ta σ H ds) (hr : ∀ p H1, Ex H H1 → LAt H1 p ds → ∀ Q : VK, (∀ v H2, Ex H1 H2 → Rp H2 v d → Q v H2) → r [.ref p] H1 Q) : ED (tCB r (tCons ta tNil)) σ H d := fun H1 x Q q =>
  h H1 x _ fun p H2 _ x2 hp => hr p H2 (x.trans x2) hp Q fun v H3 x3 s => q v H3 (x2.trans x3) s
/-- .. of a list at a name -/
theorem ed_cbV {r : List V → Hp → VK → Prop} {z : V} (h : Ev ta σ H z) (hr : ∀ H1, Ex H H1 → ∀ Q : VK, (∀ v H2, Ex H1 H2 → Rp H2 v d → Q v H2) → r [z] H1 Q) : ED (tCB r (tCons ta tNil)) σ H d := fun H1 x Q q =>
  h H1 x _ fun H2 x2 => hr H2 (x.trans x2) Q fun v H3 x3 s => q v H3 (x2.trans x3) s
theorem el_cbV {r : List V → Hp → VK → Prop} {z : V} (h : Ev ta σ H z) (hr : ∀ H1, Ex H H1 → ∀ Q : VK, (∀ p H2, H1 p = none → Ex H1 H2 → LAt H2 p ds → Q (.ref p) H2) → r [z] H1 Q) : EL (tCB r (tCons ta tNil)) σ H ds := fun H1 x Q q =>
  h H1 x _ fun H2 x2 => hr H2 (x.trans x2) Q fun p H3 hp x3 s => q p H3 (fresh_back x2 hp) (x2.trans x3) s
theorem el_cb {r : List V → Hp → VK → Prop} {ta : TA} (h : EA ta σ H ds) (hr : ∀ vs H1, Ex H H1 → RpA H1 vs ds → ∀ Q : VK, (∀ p H2, H1 p = none → Ex H1 H2 → LAt H2 p es → Q (.ref p) H2) → r vs H1 Q) : EL (tCB r ta) σ H es := fun H1 x Q q =>
  h H1 x _ fun vs H2 x2 r => hr vs H2 (x.trans x2) r Q fun p H3 hp x3 s => q p H3 (fresh_back x2 hp) (x2.trans x3) s
theorem el_cbL {r : List V → Hp → VK → Prop} (h : EL ta σ H ds) (hr : ∀ p H1, Ex H H1 → LAt H1 p ds → ∀ Q : VK, (∀ p H2, H1 p = none → Ex H1 H2 → LAt H2 p es → Q (.ref p) H2) → r [.ref p] H1 Q) : EL (tCB r (tCons ta tNil)) σ H es := fun H1 x Q q =>
  h H1 x _ fun p H2 _ x2 hp => hr p H2 (x.trans x2) hp Q fun p H3 hp x3 s => q p H3 (fresh_back x2 hp) (x2.trans x3) s
abbrev rLen (K : PySem.W.Frag) : List V → Hp → VK → Prop := fun xs H Q => ∃ p ys, xs = [.ref p] ∧ (SqL K H p ys ∨ SqT K H p ys) ∧ Q (.int ys.length) H
theorem ed_lenT (h : ED ta σ H (.tuple ds)) : ED (tCB (rLen K) (tCons ta tNil)) σ H (.int (ds.length : Int)) :=
  ed_cb (ea_cons h ea_nil) fun vs H1 _ r Q q => by
    obtain ⟨v, rfl, r0⟩ := r.e1
    obtain ⟨a, xs, rfl, ha, rs⟩ := r0.tupE
    exact ⟨a, xs, rfl, .inr (SqT.of ha), q _ H1 (Ex.refl H1) (by rw [rs.len]; exact .int _)⟩
theorem ed_lenL {p : Addr} (h : Ev ta σ H (.ref p)) (hp : LAt H p ds) : ED (tCB (rLen K) (tCons ta tNil)) σ H (.int (ds.length : Int)) :=
  ed_cbV h fun H1 x Q q => by
    obtain ⟨xs, ha, rs⟩ := hp.ex x
    exact ⟨p, xs, rfl, .inl (SqL.of ha), q _ H1 (Ex.refl H1) (by rw [rs.len]; exact .int _)⟩
/-- len of the script -/
theorem ed_lenS {p : Addr} {xs : List V} (h : Ev ta σ H (.ref p)) (hp : SqL K H p xs) : ED (tCB (rLen K) (tCons ta tNil)) σ H (.int (xs.length : Int)) :=
  ed_cbV h fun H1 x Q q => ⟨p, xs, rfl, .inl (ex_l x hp), q _ H1 (Ex.refl H1) (.int _)⟩
theorem ed_lenN (h : EL ta σ H ds) : ED (tCB (rLen K) (tCons ta tNil)) σ H (.int (ds.length : Int)) :=
  ed_cbL h fun p H1 _ hp Q q => by
    obtain ⟨xs, ha, rs⟩ := hp
    exact ⟨p, xs, rfl, .inl (SqL.of ha), q _ H1 (Ex.refl H1) (by rw [rs.len]; exact .int _)⟩
/-- tuple(a list just made) -/
abbrev rTupOf (K : PySem.W.Frag) : List V → Hp → VK → Prop := fun xs H Q => ∃ p ys, xs = [.ref p] ∧ ((SqL K H p ys ∧ ∀ l, H l = none → Q (.ref l) (upd H l (.tup ys))) ∨ (SqT K H p ys ∧ Q (.ref p) H))
theorem ed_tupN (h : EL ta σ H ds) : ED (tCB (rTupOf K) (tCons ta tNil)) σ H (.tuple ds) :=
  ed_cbL h fun p H1 _ hp Q q => by
    obtain ⟨xs, ha, rs⟩ := hp
    exact ⟨p, xs, rfl, .inl ⟨SqL.of ha, fun l hl => q _ _ (Ex.new hl) (.tup upd_same (rs.up (Tx.new hl)))⟩⟩
theorem ed_tupL {p : Addr} (h : Ev ta σ H (.ref p)) (hp : LAt H p ds) : ED (tCB (rTupOf K) (tCons ta tNil)) σ H (.tuple ds) :=
  ed_cbV h fun H1 x Q q => by
    obtain ⟨xs, ha, rs⟩ := hp.ex x
    exact ⟨p, xs, rfl, .inl ⟨SqL.of ha, fun l hl => q _ _ (Ex.new hl) (.tup upd_same (rs.up (Tx.new hl)))⟩⟩
/-- list(a tuple) -/
abbrev rLstOf (K : PySem.W.Frag) : List V → Hp → VK → Prop := fun xs H Q => ∃ p ys, xs = [.ref p] ∧ (SqL K H p ys ∨ SqT K H p ys) ∧ ∀ l, H l = none → Q (.ref l) (upd H l (.lst ys))
theorem el_listT (h : ED ta σ H (.tuple ds)) : EL (tCB (rLstOf K) (tCons ta tNil)) σ H ds :=
  el_cb (ea_cons h ea_nil) fun vs H1 _ r Q q => by
    obtain ⟨v, rfl, r0⟩ := r.e1
    obtain ⟨a, xs, rfl, ha, rs⟩ := r0.tupE
    exact ⟨a, xs, rfl, .inr (SqT.of ha), fun l hl => q _ _ hl (Ex.new hl) ⟨xs, upd_same, rs.up (Tx.new hl)⟩⟩
/-- sum of a list of ints -/
theorem ed_sum {ns : List Int} (h : EL ta σ H (ns.map PyData.int)) : ED (tCB (rSum K) (tCons ta tNil)) σ H (.int ns.sum) :=
  ed_cbL h fun p H1 _ hp Q q => by
    obtain ⟨xs, ha, rs⟩ := hp
    rw [rs.intsE] at ha
    exact ⟨p, ns, rfl, SqL.of ha, q _ H1 (Ex.refl H1) (.int _)⟩
theorem ed_all {bs : List Bool} (h : EL ta σ H (bs.map PyData.bool)) : ED (tCB (rAll K) (tCons ta tNil)) σ H (.bool (bs.all id)) :=
  ed_cbL h fun p H1 _ hp Q q => by
    obtain ⟨xs, ha, rs⟩ := hp
    rw [rs.blsE] at ha
    exact ⟨p, bs, rfl, SqL.of ha, q _ H1 (Ex.refl H1) (.bl _)⟩
/-- int(a truth) -/
abbrev rInt1 : List V → Hp → VK → Prop := fun xs H Q => (∃ i, xs = [.int i] ∧ Q (.int i) H) ∨ ∃ k, xs = [.bl k] ∧ Q (.int (if k then 1 else 0)) H
theorem ed_intB (h : ED ta σ H (.bool b)) : ED (tCB rInt1 (tCons ta tNil)) σ H (.int (if b then 1 else 0)) :=
  ed_cb (ea_cons h ea_nil) fun vs H1 _ r Q q => by
    obtain ⟨v, rfl, r0⟩ := r.e1
    rw [r0.blE]
    exact .inr ⟨b, rfl, q _ H1 (Ex.refl H1) (.int _)⟩
theorem ed_2 {g : Int → Int → Int} (ha : ED ta σ H (.int i)) (hb : ED tb σ H (.int j)) : ED (tCB (fun xs H Q => ∃ i j, xs = [V.int i, V.int j] ∧ Q (.int (g i j)) H) (tCons ta (tCons tb tNil))) σ H (.int (g i j)) :=
  ed_cb (ea_cons ha (ea_cons hb ea_nil)) fun vs H1 _ r Q q => by
    obtain ⟨v, w, rfl, r0, s⟩ := r.e2
    rw [r0.intE, s.intE]
    exact ⟨i, j, rfl, q _ H1 (Ex.refl H1) (.int _)⟩

/-! ### tests -/
theorem et_d (h : ED te σ H (.bool b)) : EvT (tTest te) σ H b := fun H1 x _ q => h H1 x _ fun v H2 x2 r => ⟨b, r.blE, q H2 x2⟩
theorem et_dB (h : ED te σ H (.bool b)) : EvT (tB te) σ H b := fun H1 x _ q => h H1 x _ fun v H2 x2 r => ⟨b, r.blE, q H2 x2⟩
theorem ed_if (h : EvT t σ H b) (h1 : b = true → ED ta σ H d) (h2 : b = false → ED tb σ H d) : ED (tIf t ta tb) σ H d := fun H1 x Q q => h H1 x _ fun H2 x2 => by
  cases b with
  | true =>
    show ta σ H2 Q
    exact h1 rfl H2 (x.trans x2) Q fun v H3 x3 r => q v H3 (x2.trans x3) r
  | false =>
    show tb σ H2 Q
    exact h2 rfl H2 (x.trans x2) Q fun v H3 x3 r => q v H3 (x2.trans x3) r
theorem ed_andV {a b : Bool} (h1 : ED ta σ H (.bool a)) (h2 : a = true → ED tb σ H (.bool b)) : ED (tAndV ta tb) σ H (.bool (a && b)) := fun H1 x Q q => h1 H1 x _ fun v H2 x2 r => ⟨a, r.blE, by
  cases a with
  | true =>
    show tb σ H2 Q
    exact h2 rfl H2 (x.trans x2) Q fun v H3 x3 r => q v H3 (x2.trans x3) r
  | false =>
    show Q (.bl false) H2
    exact q _ H2 x2 (.bl false)⟩
theorem ed_orV {a b : Bool} (h1 : ED ta σ H (.bool a)) (h2 : a = false → ED tb σ H (.bool b)) : ED (tOrV ta tb) σ H (.bool (a || b)) := fun H1 x Q q => h1 H1 x _ fun v H2 x2 r => ⟨a, r.blE, by
  cases a with
  | true =>
    show Q (.bl true) H2
    exact q _ H2 x2 (.bl true)
  | false =>
    show tb σ H2 Q
    exact h2 rfl H2 (x.trans x2) Q fun v H3 x3 r => q v H3 (x2.trans x3) r⟩
theorem ed_notV {a : Bool} (h1 : ED ta σ H (.bool a)) : ED (tNotV ta) σ H (.bool (!a)) := fun H1 x _ q => h1 H1 x _ fun v H2 x2 r => ⟨a, r.blE, q _ H2 x2 (.bl _)⟩
/-- == and != -/
theorem ed_eqS (ha : Ev ta σ H v) (hb : Ev tb σ H w) (hs : scal v w = true) : ED (tOp rEq ta tb) σ H (.bool (decide (v = w))) := fun H1 x Q q =>
  ha H1 x _ fun H2 x2 => hb H2 (x.trans x2) _ fun H3 x3 => ⟨hs, q _ H3 (x2.trans x3) (.bl _)⟩
theorem ed_eqI (ha : ED ta σ H (.int i)) (hb : ED tb σ H (.int j)) : ED (tOp rEq ta tb) σ H (.bool (decide (i = j))) := by
  have h := ed_eqS (ev_ed ha) (ev_ed hb) rfl
  have e : decide (V.int i = V.int j) = decide (i = j) := by
    by_cases q : i = j
    · subst q; simp
    · rw [decide_eq_false q, decide_eq_false fun z => q (V.int.inj z)]
  rw [e] at h
  exact h
theorem ed_neI (ha : ED ta σ H (.int i)) (hb : ED tb σ H (.int j)) : ED (tOp rNe ta tb) σ H (.bool (!decide (i = j))) := fun H1 x Q q =>
  ha H1 x _ fun v H2 x2 r => hb H2 (x.trans x2) _ fun w H3 x3 s => by
    rw [r.intE, s.intE]
    refine ⟨rfl, ?_⟩
    have e : decide (V.int i = V.int j) = decide (i = j) := by
      by_cases q : i = j
      · subst q; simp
      · rw [decide_eq_false q, decide_eq_false fun z => q (V.int.inj z)]
    rw [e]
    exact q _ H3 (x2.trans x3) (.bl _)
theorem ed_eqD (ha : ED ta σ H d1) (hb : ED tb σ H d2) (s1 : SeqAt.shaped d1 = true) (s2 : SeqAt.shaped d2 = true) : ED (tOp (rEqD K) ta tb) σ H (.bool (PyData.eqv d1 d2)) := fun H1 x Q q =>
  ha H1 x _ fun v H2 x2 r => hb H2 (x.trans x2) _ fun w H3 x3 s => ⟨d1, d2, (r.ex x3).dp, s.dp, s1, s2, q _ H3 (x2.trans x3) (.bl _)⟩
theorem ed_neD (ha : ED ta σ H d1) (hb : ED tb σ H d2) (s1 : SeqAt.shaped d1 = true) (s2 : SeqAt.shaped d2 = true) : ED (tOp (rNeD K) ta tb) σ H (.bool (!PyData.eqv d1 d2)) := fun H1 x Q q =>
  ha H1 x _ fun v H2 x2 r => hb H2 (x.trans x2) _ fun w H3 x3 s => ⟨d1, d2, (r.ex x3).dp, s.dp, s1, s2, q _ H3 (x2.trans x3) (.bl _)⟩
theorem ed_eqB {a b : Bool} (ha : ED ta σ H (.bool a)) (hb : ED tb σ H (.bool b)) : ED (tOp rEq ta tb) σ H (.bool (decide (a = b))) := fun H1 x Q q =>
  ha H1 x _ fun v H2 x2 r => hb H2 (x.trans x2) _ fun w H3 x3 s => by
    rw [r.blE, s.blE]
    refine ⟨rfl, ?_⟩
    have e : decide (V.bl a = V.bl b) = decide (a = b) := by cases a <;> cases b <;> rfl
    rw [e]
    exact q _ H3 (x2.trans x3) (.bl _)
theorem ed_neB {a b : Bool} (ha : ED ta σ H (.bool a)) (hb : ED tb σ H (.bool b)) : ED (tOp rNe ta tb) σ H (.bool (!decide (a = b))) := fun H1 x Q q =>
  ha H1 x _ fun v H2 x2 r => hb H2 (x.trans x2) _ fun w H3 x3 s => by
    rw [r.blE, s.blE]
    refine ⟨rfl, ?_⟩
    have e : decide (V.bl a = V.bl b) = decide (a = b) := by cases a <;> cases b <;> rfl
    rw [e]
    exact q _ H3 (x2.trans x3) (.bl _)
/-- isinstance(x, T), T a built-in class -/
def tyD : PyData → String
  | .none => "NoneType"
  | .bool _ => "bool"
  | .int _ => "int"
  | .str _ => "str"
  | .tuple _ => "tuple"
  | .list _ => "list"
  | .dict _ => "dict"
theorem Rp.ty {d : PyData} {v : V} (h : Rp H v d) : TyX K H v (.type (tyD d)) := by
  cases h with
  | non => exact .base .non
  | bl b => exact .base (.bl b)
  | int i => exact .base (.int i)
  | str x => exact .base (.str x)
  | tup h1 _ => exact .base (.tup h1)
theorem ed_isi {T : String} {b : Bool} (ha : ED ta σ H d) (hk : kitB (tyD d) T = some b) : ED (tCB (rIsi K) (tCons ta (tCons (tC (.ty T)) tNil))) σ H (.bool b) := fun H1 x Q q =>
  ha H1 x _ fun v H2 x2 r => ⟨v, .ty T, _, _, b, rfl, .ty T, r.ty, kit_ty hk, q _ H2 x2 (.bl b)⟩
/-- two lists -/
theorem LAt.dp {p : Addr} (h : LAt H p ds) : Dp K H (.ref p) (.list ds) := by
  obtain ⟨vs, h1, h2⟩ := h
  exact .lst (SqL.of h1) (RpA.dp _ _ h2)
theorem ed_eqLL (ha : EL ta σ H ds) (hb : EL tb σ H es) (s1 : SeqAt.shaped (.list ds) = true) (s2 : SeqAt.shaped (.list es) = true) : ED (tOp (rEqD K) ta tb) σ H (.bool (PyData.eqv (.list ds) (.list es))) := fun H1 x Q q =>
  ha H1 x _ fun v H2 _ x2 r => hb H2 (x.trans x2) _ fun w H3 _ x3 s => ⟨_, _, (r.ex x3).dp, s.dp, s1, s2, q _ H3 (x2.trans x3) (.bl _)⟩
theorem ed_neLL (ha : EL ta σ H ds) (hb : EL tb σ H es) (s1 : SeqAt.shaped (.list ds) = true) (s2 : SeqAt.shaped (.list es) = true) : ED (tOp (rNeD K) ta tb) σ H (.bool (!PyData.eqv (.list ds) (.list es))) := fun H1 x Q q =>
  ha H1 x _ fun v H2 _ x2 r => hb H2 (x.trans x2) _ fun w H3 _ x3 s => ⟨_, _, (r.ex x3).dp, s.dp, s1, s2, q _ H3 (x2.trans x3) (.bl _)⟩
/-- x in a list, a tuple, of ints -/
theorem inV_ints (i : Int) : ∀ ns : List Int, inV (.int i) (ns.map V.int) = decide (i ∈ ns)
  | [] => rfl
  | n :: ns => by
    have h := inV_ints i ns
    unfold inV at h ⊢
    rw [List.map_cons, List.any_cons, h]
    have e : eqV (V.int n) (V.int i) = decide (n = i) := by
      unfold eqV
      first | rfl | simp | (by_cases q : n = i <;> simp [q])
    rw [e]
    by_cases q : n = i
    · subst q; simp
    · have q' : ¬ i = n := fun z => q z.symm
      simp [q, q']
theorem flat_ints : ∀ ns : List Int, (ns.map V.int).all flatV = true
  | [] => rfl
  | n :: ns => by rw [List.map_cons, List.all_cons, flat_ints ns]; rfl
theorem ed_inT {neg : Bool} {ns : List Int} (ha : ED ta σ H (.int i)) (hb : ED tb σ H (.tuple (ns.map PyData.int))) : ED (tOp (rIn K neg) ta tb) σ H (.bool (if neg then !decide (i ∈ ns) else decide (i ∈ ns))) := fun H1 x Q q =>
  ha H1 x _ fun v H2 x2 r => hb H2 (x.trans x2) _ fun w H3 x3 s => by
    obtain ⟨a, xs, rfl, ha', rs⟩ := s.tupE
    rw [rs.intsE] at ha'
    rw [r.intE]
    refine ⟨a, _, rfl, .inr (SqT.of ha'), rfl, flat_ints ns, ?_⟩
    rw [inV_ints]
    exact q _ H3 (x2.trans x3) (.bl _)
theorem ed_inL {neg : Bool} {ns : List Int} {p : Addr} (ha : ED ta σ H (.int i)) (hb : Ev tb σ H (.ref p)) (hp : LAt H p (ns.map PyData.int)) : ED (tOp (rIn K neg) ta tb) σ H (.bool (if neg then !decide (i ∈ ns) else decide (i ∈ ns))) := fun H1 x Q q =>
  ha H1 x _ fun v H2 x2 r => hb H2 (x.trans x2) _ fun H3 x3 => by
    obtain ⟨xs, ha', rs⟩ := hp.ex ((x.trans x2).trans x3)
    rw [rs.intsE] at ha'
    rw [r.intE]
    refine ⟨p, _, rfl, .inl (SqL.of ha'), rfl, flat_ints ns, ?_⟩
    rw [inV_ints]
    exact q _ H3 (x2.trans x3) (.bl _)

/-! ### calls of defs: promises of one form -/
/-- called with the data ds it hands back the data d, and changes nothing -/
def SpR (R : List PyData → PyData → Prop) : Sp := fun vs H Q _ => ∃ ds d, RpA H vs ds ∧ R ds d ∧ ∀ v H', Ex H H' → Rp H' v d → Q v H'
/-- .. a new list of the data es -/
def SpL (R : List PyData → List PyData → Prop) : Sp := fun vs H Q _ => ∃ ds es, RpA H vs ds ∧ R ds es ∧ ∀ p H', H p = none → Ex H H' → LAt H' p es → Q (.ref p) H'
theorem ed_call {R : List PyData → PyData → Prop} {E : XK} {ta : TA} (h : EA ta σ H ds) (hr : R ds d) : ED (tCall (SpR R) [] E ta) σ H d := fun H1 x Q q =>
  h H1 x _ fun vs H2 x2 r => ⟨ds, d, by rw [List.append_nil]; exact r, hr, fun v H3 x3 s => q v H3 (x2.trans x3) s⟩
theorem el_call {R : List PyData → List PyData → Prop} {E : XK} {ta : TA} (h : EA ta σ H ds) (hr : R ds es) : EL (tCall (SpL R) [] E ta) σ H es := fun H1 x Q q =>
  h H1 x _ fun vs H2 x2 r => ⟨ds, es, by rw [List.append_nil]; exact r, hr, fun p H3 hp x3 s => q p H3 (fresh_back x2 hp) (x2.trans x3) s⟩

/-! ### comprehensions -/
theorem filt_yes {α : Type} {p : α → Bool} {l : List α} {x : α} {i : Nat} (h : l[i]? = some x) (q : p x = true) : ((l.take (i + 1)).filter p) = (l.take i).filter p ++ [x] := by
  rw [List.take_add_one, h]
  simp [q]
theorem filt_no {α : Type} {p : α → Bool} {l : List α} {x : α} {i : Nat} (h : l[i]? = some x) (q : p x = false) : ((l.take (i + 1)).filter p) = (l.take i).filter p := by
  rw [List.take_add_one, h]
  simp [q]
/-- the word: the list so far -/
def Cwd (H : Hp) (Dl : Addr) (es : List PyData) (H' : Hp) : Prop := H Dl = none ∧ Ex H H' ∧ LAt H' Dl es
theorem cwd_turn {σ2 : L2.St} {Dl : Addr} {p : Bool} {y : PyData} {W' : Hp → Prop} (c : Cwd H Dl es H') (hz : es.length < 100000) (ht : EvT t σ2 H p) (he : p = true → ED te σ2 H y)
    (h1 : p = true → ∀ H2, Cwd H Dl (es ++ [y]) H2 → W' H2) (h0 : p = false → ∀ H2, Cwd H Dl es H2 → W' H2) :
    t σ2 H' fun b H3 => if b = true then te σ2 H3 fun y H4 => ∃ acc, H4 Dl = some (.lst acc) ∧ acc.length < sizeLine ∧ W' (upd H4 Dl (.lst (acc ++ [y]))) else W' H3 := by
  obtain ⟨p1, p2, p3⟩ := c
  refine ht H' p2 _ fun H3 e3 => ?_
  cases hf : p with
  | true =>
    show te σ2 H3 fun y H4 => ∃ acc, H4 Dl = some (.lst acc) ∧ acc.length < sizeLine ∧ W' (upd H4 Dl (.lst (acc ++ [y])))
    refine he hf H3 (p2.trans e3) _ fun v H4 e4 r => ?_
    obtain ⟨acc, ha, ra⟩ := p3.ex (e3.trans e4)
    refine ⟨acc, ha, sz_lt (by rw [ra.len]; exact hz), h1 hf _ ⟨p1, Ex.mut ((p2.trans e3).trans e4) p1, _, upd_same, (ra.append (.one r)).up (Tx.upd ha True.intro)⟩⟩
  | false =>
    show W' H3
    exact h0 hf H3 ⟨p1, p2.trans e3, p3.ex e3⟩
/-- over a tuple of data, the target's slots told by the caller: σ2 the state behind the target -/
theorem el_lcTg {α : Type} {l : List α} {enc : α → PyData} {tl : TE} {g : TG} {vs : List Nat} (p : α → Bool) (f : α → PyData) (hl : ED tl σ H (.tuple (l.map enc))) (hz : l.length ≤ 40000)
    (hg : ∀ (x : V) (a : α) H1, Ex H H1 → a ∈ l → Rp H1 x (enc a) → ∃ σ2, wipe σ2 vs = wipe σ vs ∧ (∀ H2, Ex H1 H2 → ∀ Q : L2.St → Hp → Prop, Q σ2 H2 → g x (wipe σ vs) H2 Q) ∧ EvT t σ2 H1 (p a) ∧ (p a = true → ED te σ2 H1 (f a))) :
    EL (tLc (iTup K tl) g t te vs) σ H ((l.filter p).map f) := fun H0 x0 Q q => hl H0 x0 _ fun v H1 x1 r => by
  obtain ⟨a, xs, rfl, ha, rs⟩ := r.tupE
  refine ⟨a, rfl, ⟨xs, SqT.of ha⟩, fun Dl hD => ?_⟩
  refine lc_tup (xs := xs) (fun i H' => Cwd H1 Dl (((l.take i).filter p).map f) H') ⟨hD, Ex.new hD, [], upd_same, .nil⟩ (fun i H' _ c => SqT.of (c.2.1 _ _ ha)) (fun i x H' hi c => ?_) (fun H' c => ?_)
  · obtain ⟨d, hd, rd⟩ := rs.getV hi
    rw [List.getElem?_map] at hd
    cases hc : l[i]? with
    | none => rw [hc] at hd; cases hd
    | some b =>
      rw [hc] at hd
      obtain rfl : enc b = d := Option.some.inj hd
      obtain ⟨σ2, hw, hgo, ht, he⟩ := hg x b H1 (x0.trans x1) (List.mem_of_getElem? hc) rd
      refine hgo H' c.2.1 _ ⟨hw, ?_⟩
      have hlen : (((l.take i).filter p).map f).length < 100000 := by
        have h1 := List.length_filter_le p (l.take i)
        have h2 : (l.take i).length ≤ l.length := by rw [List.length_take]; omega
        rw [List.length_map]
        omega
      refine cwd_turn (es := ((l.take i).filter p).map f) (p := p b) (y := f b) c hlen ht he (fun hp H2 c2 => ?_) (fun hp H2 c2 => ?_)
      · rw [filt_yes hc hp, List.map_append]
        exact c2
      · rw [filt_no hc hp]
        exact c2
  · have e : (l.take xs.length) = l := by rw [rs.len, List.length_map]; exact List.take_length
    rw [e] at c
    exact q Dl H' (fresh_back x1 c.1) (x1.trans c.2.1) c.2.2
/-- .. the target a name -/
theorem el_lcT {α : Type} {l : List α} {enc : α → PyData} {tl : TE} {j : Nat} {vs : List Nat} (p : α → Bool) (f : α → PyData) (hl : ED tl σ H (.tuple (l.map enc))) (hz : l.length ≤ 40000) (hw : ∀ x, wipe ((wipe σ vs).set j (some x)) vs = wipe σ vs)
    (hg : ∀ (x : V) (a : α) H1, Ex H H1 → a ∈ l → Rp H1 x (enc a) → EvT t ((wipe σ vs).set j (some x)) H1 (p a) ∧ (p a = true → ED te ((wipe σ vs).set j (some x)) H1 (f a))) :
    EL (tLc (iTup K tl) (gName j) t te vs) σ H ((l.filter p).map f) :=
  el_lcTg p f hl hz fun x d H1 e hd r => ⟨_, hw x, fun H2 _ Q q => q, (hg x d H1 e hd r).1, (hg x d H1 e hd r).2⟩
theorem et_yes : EvT tYes σ H true := fun H1 _ _ q => q H1 (Ex.refl H1)
/-- .. no test -/
theorem el_lcT0 {α : Type} {l : List α} {enc : α → PyData} {tl : TE} {j : Nat} {vs : List Nat} (f : α → PyData) (hl : ED tl σ H (.tuple (l.map enc))) (hz : l.length ≤ 40000) (hw : ∀ x, wipe ((wipe σ vs).set j (some x)) vs = wipe σ vs)
    (hg : ∀ (x : V) (a : α) H1, Ex H H1 → a ∈ l → Rp H1 x (enc a) → ED te ((wipe σ vs).set j (some x)) H1 (f a)) :
    EL (tLc (iTup K tl) (gName j) tYes te vs) σ H (l.map f) := by
  have h := el_lcT (K := K) (t := tYes) (te := te) (fun _ => true) f hl hz hw fun x d H1 e hd r => ⟨et_yes, fun _ => hg x d H1 e hd r⟩
  have e : l.filter (fun _ => true) = l := by simp
  rw [e] at h
  exact h
/-- over a list of data that tl evaluates to: P tells what tl hands back -/
theorem lcL_core {α : Type} {l : List α} {enc : α → PyData} {g : TG} {vs : List Nat} {a : Addr} {H1 : Hp} (p : α → Bool) (f : α → PyData) (hp : LAt H1 a (l.map enc)) (hz : l.length ≤ 40000)
    (hg : ∀ (x : V) (b : α), b ∈ l → Rp H1 x (enc b) → ∃ σ2, wipe σ2 vs = wipe σ vs ∧ (∀ H2, Ex H1 H2 → ∀ Q : L2.St → Hp → Prop, Q σ2 H2 → g x (wipe σ vs) H2 Q) ∧ EvT t σ2 H1 (p b) ∧ (p b = true → ED te σ2 H1 (f b)))
    {Q : VK} (q : ∀ p' H2, H1 p' = none → Ex H1 H2 → LAt H2 p' ((l.filter p).map f) → Q (.ref p') H2) :
    ∀ D, H1 D = none → ∃ W : Nat → Nat → Hp → Prop, (∃ m, W 0 m (upd H1 D (.lst []))) ∧ ∀ i m H, W i m H →
      ((Itl K a).stop i H ∧ Q (.ref D) H) ∨ ((Itl K a).go i H ∧ ∃ N : Hp → Prop, (∀ H', N H' → ∃ m', m' < m ∧ W (i + 1) m' H') ∧ ∀ x H', (Itl K a).yld i H x H' → g x (wipe σ vs) H' fun σ2 H2 => wipe σ2 vs = wipe σ vs ∧ t σ2 H2 fun b H3 => if b = true then te σ2 H3 fun y H4 => ∃ acc, H4 D = some (.lst acc) ∧ acc.length < sizeLine ∧ N (upd H4 D (.lst (acc ++ [y]))) else N H3) := fun Dl hD => by
  obtain ⟨xs, ha, rs⟩ := hp
  refine lc_list (xs := xs) (fun i H' => Cwd H1 Dl (((l.take i).filter p).map f) H') ⟨hD, Ex.new hD, [], upd_same, .nil⟩ (fun i H' _ c => SqL.of (c.2.1 _ _ ha)) (fun i x H' hi c => ?_) (fun H' c => ?_)
  · obtain ⟨d, hd, rd⟩ := rs.getV hi
    rw [List.getElem?_map] at hd
    cases hc : l[i]? with
    | none => rw [hc] at hd; cases hd
    | some b =>
      rw [hc] at hd
      obtain rfl : enc b = d := Option.some.inj hd
      obtain ⟨σ2, hw, hgo, ht, he⟩ := hg x b (List.mem_of_getElem? hc) rd
      refine hgo H' c.2.1 _ ⟨hw, ?_⟩
      have hlen : (((l.take i).filter p).map f).length < 100000 := by
        have h1 := List.length_filter_le p (l.take i)
        have h2 : (l.take i).length ≤ l.length := by rw [List.length_take]; omega
        rw [List.length_map]
        omega
      refine cwd_turn (es := ((l.take i).filter p).map f) (p := p b) (y := f b) c hlen ht he (fun hp H2 c2 => ?_) (fun hp H2 c2 => ?_)
      · rw [filt_yes hc hp, List.map_append]
        exact c2
      · rw [filt_no hc hp]
        exact c2
  · have e : (l.take xs.length) = l := by rw [rs.len, List.length_map]; exact List.take_length
    rw [e] at c
    exact q Dl H' c.1 c.2.1 c.2.2
/-- over a list at a name -/
theorem el_lcL {α : Type} {l : List α} {enc : α → PyData} {tl : TE} {g : TG} {vs : List Nat} {a : Addr} (p : α → Bool) (f : α → PyData) (hl : Ev tl σ H (.ref a)) (hp : LAt H a (l.map enc)) (hz : l.length ≤ 40000)
    (hg : ∀ (x : V) (a : α) H1, Ex H H1 → a ∈ l → Rp H1 x (enc a) → ∃ σ2, wipe σ2 vs = wipe σ vs ∧ (∀ H2, Ex H1 H2 → ∀ Q : L2.St → Hp → Prop, Q σ2 H2 → g x (wipe σ vs) H2 Q) ∧ EvT t σ2 H1 (p a) ∧ (p a = true → ED te σ2 H1 (f a))) :
    EL (tLc (iList K tl) g t te vs) σ H ((l.filter p).map f) := fun H0 x0 Q q => hl H0 x0 _ fun H1 x1 =>
  ⟨a, rfl, (let ⟨xs, h1, _⟩ := hp.ex (x0.trans x1); ⟨xs, SqL.of h1⟩), lcL_core p f (hp.ex (x0.trans x1)) hz (fun x b hb r => hg x b H1 (x0.trans x1) hb r) fun p' H2 h1 h2 h3 => q p' H2 (fresh_back x1 h1) (x1.trans h2) h3⟩
/-- over a list made on the way -/
theorem el_lcN {α : Type} {l : List α} {enc : α → PyData} {tl : TE} {g : TG} {vs : List Nat} (p : α → Bool) (f : α → PyData) (hl : EL tl σ H (l.map enc)) (hz : l.length ≤ 40000)
    (hg : ∀ (x : V) (a : α) H1, Ex H H1 → a ∈ l → Rp H1 x (enc a) → ∃ σ2, wipe σ2 vs = wipe σ vs ∧ (∀ H2, Ex H1 H2 → ∀ Q : L2.St → Hp → Prop, Q σ2 H2 → g x (wipe σ vs) H2 Q) ∧ EvT t σ2 H1 (p a) ∧ (p a = true → ED te σ2 H1 (f a))) :
    EL (tLc (iList K tl) g t te vs) σ H ((l.filter p).map f) := fun H0 x0 Q q => hl H0 x0 _ fun a H1 ha x1 hp =>
  ⟨a, rfl, (let ⟨xs, h1, _⟩ := hp; ⟨xs, SqL.of h1⟩), lcL_core p f hp hz (fun x b hb r => hg x b H1 (x0.trans x1) hb r) fun p' H2 h1 h2 h3 => q p' H2 (fresh_back x1 h1) (x1.trans h2) h3⟩
/-- the target a name: what hg of these asks -/
theorem tg_name {j : Nat} {vs : List Nat} {x : V} {H1 : Hp} {b : Bool} {d : PyData} (hw : wipe ((wipe σ vs).set j (some x)) vs = wipe σ vs) (ht : EvT t ((wipe σ vs).set j (some x)) H1 b) (he : b = true → ED te ((wipe σ vs).set j (some x)) H1 d) :
    ∃ σ2, wipe σ2 vs = wipe σ vs ∧ (∀ H2, Ex H1 H2 → ∀ Q : L2.St → Hp → Prop, Q σ2 H2 → gName j x (wipe σ vs) H2 Q) ∧ EvT t σ2 H1 b ∧ (b = true → ED te σ2 H1 d) := ⟨_, hw, fun _ _ _ q => q, ht, he⟩
/-- a pair of names -/
theorem tg_pair {j k : Nat} {vs : List Nat} {x : V} {H1 : Hp} {b : Bool} {d d1 d2 : PyData} (r : Rp H1 x (.tuple [d1, d2])) (hw : ∀ y z, wipe (((wipe σ vs).set j (some y)).set k (some z)) vs = wipe σ vs)
    (h : ∀ y z, Rp H1 y d1 → Rp H1 z d2 → EvT t (((wipe σ vs).set j (some y)).set k (some z)) H1 b ∧ (b = true → ED te (((wipe σ vs).set j (some y)).set k (some z)) H1 d)) :
    ∃ σ2, wipe σ2 vs = wipe σ vs ∧ (∀ H2, Ex H1 H2 → ∀ Q : L2.St → Hp → Prop, Q σ2 H2 → gTup K 2 (gCons (gName j) (gCons (gName k) gNil)) x (wipe σ vs) H2 Q) ∧ EvT t σ2 H1 b ∧ (b = true → ED te σ2 H1 d) := by
  obtain ⟨a, xs, rfl, ha, rs⟩ := r.tupE
  obtain ⟨y, z, rfl, r1, r2⟩ := rs.e2
  exact ⟨_, hw y z, fun H2 e Q q => ⟨a, [y, z], rfl, SqT.of (e _ _ ha), rfl, y, [z], rfl, z, [], rfl, rfl, q⟩, (h y z r1 r2).1, (h y z r1 r2).2⟩
/-- over range(n) -/
theorem el_lcR {ta : TA} {j : Nat} {vs : List Nat} {n : Nat} (p : Nat → Bool) (f : Nat → PyData) (h : EA ta σ H [.int (n : Int)]) (hn : n ≤ 40000) (hw : ∀ x, wipe ((wipe σ vs).set j (some x)) vs = wipe σ vs)
    (hg : ∀ (i : Nat) H1, Ex H H1 → i < n → EvT t ((wipe σ vs).set j (some (.int (i : Int)))) H1 (p i) ∧ (p i = true → ED te ((wipe σ vs).set j (some (.int (i : Int)))) H1 (f i))) :
    EL (tLc (iRng1 ta) (gName j) t te vs) σ H (((List.range n).filter p).map f) := fun H0 x0 Q q => h H0 x0 _ fun us H1 x1 r => by
  obtain ⟨v, rfl, r0⟩ := r.e1
  refine ⟨n, by rw [r0.intE], by omega, by omega, fun Dl hD => ?_⟩
  refine lc_range (lo := 0) (n := (n : Int).toNat) (fun i H' => Cwd H1 Dl ((((List.range n).take i).filter p).map f) H') ⟨hD, Ex.new hD, [], upd_same, .nil⟩ (fun i H' hi c => ?_) (fun H' c => ?_)
  · have e0 : (0 : Int) + (i : Int) = (i : Int) := Int.zero_add _
    have hin : i < n := by simpa using hi
    obtain ⟨ht, he⟩ := hg i H1 (x0.trans x1) hin
    show wipe ((wipe σ vs).set j (some (.int ((0 : Int) + (i : Int))))) vs = wipe σ vs ∧ t ((wipe σ vs).set j (some (.int ((0 : Int) + (i : Int))))) H' _
    rw [e0]
    refine ⟨hw _, ?_⟩
    have hd : (List.range n)[i]? = some i := by rw [List.getElem?_range hin]
    have hlen : ((((List.range n).take i).filter p).map f).length < 100000 := by
      have h1 := List.length_filter_le p ((List.range n).take i)
      have h2 : ((List.range n).take i).length ≤ n := by rw [List.length_take, List.length_range]; omega
      rw [List.length_map]
      omega
    refine cwd_turn (es := (((List.range n).take i).filter p).map f) (p := p i) (y := f i) c hlen ht he (fun hp H2 c2 => ?_) (fun hp H2 c2 => ?_)
    · rw [filt_yes hd hp, List.map_append]
      exact c2
    · rw [filt_no hd hp]
      exact c2
  · have e : ((List.range n).take (n : Int).toNat) = List.range n := by
      rw [Int.toNat_natCast]
      exact List.take_of_length_le (by simp)
    rw [e] at c
    exact q Dl H' (fresh_back x1 c.1) (x1.trans c.2.1) c.2.2
theorem el_lcR0 {ta : TA} {j : Nat} {vs : List Nat} {n : Nat} (f : Nat → PyData) (h : EA ta σ H [.int (n : Int)]) (hn : n ≤ 40000) (hw : ∀ x, wipe ((wipe σ vs).set j (some x)) vs = wipe σ vs)
    (hg : ∀ (i : Nat) H1, Ex H H1 → i < n → ED te ((wipe σ vs).set j (some (.int (i : Int)))) H1 (f i)) :
    EL (tLc (iRng1 ta) (gName j) tYes te vs) σ H ((List.range n).map f) := by
  have h := el_lcR (t := tYes) (te := te) (fun _ => true) f h hn hw fun i H1 e hi => ⟨et_yes, fun _ => hg i H1 e hi⟩
  have e : (List.range n).filter (fun _ => true) = List.range n := by simp
  rw [e] at h
  exact h

/-- list(range(n)) -/
theorem rgV_nat (n : Nat) : rgV 0 (n : Int) = ((List.range n).map fun i : Nat => (i : Int)).map V.int := by
  unfold rgV
  rw [List.map_map]
  have : ((n : Int) - 0).toNat = n := by omega
  rw [this]
  refine List.map_congr_left fun i _ => ?_
  simp
theorem el_rg1 {n : Nat} (h : ED ta σ H (.int (n : Int))) (hn : n ≤ 100000) : EL (tLstRg (tRg1 ta)) σ H (((List.range n).map fun i : Nat => (i : Int)).map PyData.int) := fun H1 x Q q =>
  h H1 x _ fun v H2 x2 r => ⟨n, r.intE, RgOk.of_le (by omega) (by omega) (by omega) (by omega), fun l hl => q l _ (fresh_back x2 hl) (x2.trans (Ex.new hl)) ⟨_, upd_same, by rw [rgV_nat]; exact RpA.ints _⟩⟩

/-! ### statements -/
variable {D : Ends} {tu tw tz : TS}
theorem sd_ret (h : ED te σ H d) (k : ∀ v H1, Ex H H1 → Rp H1 v d → D.rt v H1) : tRet te D σ H := h H (Ex.refl H) _ k
theorem sd_retL (h : EL te σ H ds) (k : ∀ p H1, H p = none → Ex H H1 → LAt H1 p ds → D.rt (.ref p) H1) : tRet te D σ H := h H (Ex.refl H) _ k
theorem sd_asg {k : Nat} (h : ED te σ H d) (q : ∀ v H1, Ex H H1 → Rp H1 v d → D.nx (σ.set k (some v)) H1) : tAsg te (gName k) D σ H := h H (Ex.refl H) _ q
theorem sd_asgL {k : Nat} (h : EL te σ H ds) (q : ∀ p H1, H p = none → Ex H H1 → LAt H1 p ds → D.nx (σ.set k (some (.ref p))) H1) : tAsg te (gName k) D σ H := h H (Ex.refl H) _ q
theorem qd_asg {k : Nat} (h : ED te σ H d) (q : ∀ v H1, Ex H H1 → Rp H1 v d → tz D (σ.set k (some v)) H1) : tSeq (tAsg te (gName k)) tz D σ H := h H (Ex.refl H) _ q
/-- for x in a tuple of data -/
theorem sd_forT {α : Type} {l : List α} {enc : α → PyData} {tl : TE} {g : TG} (h : ED tl σ H (.tuple (l.map enc))) (Pv : Hp → Nat → L2.St → Hp → Prop) (h0 : ∀ H1, Ex H H1 → Pv H1 0 σ H1) (hT : ∀ H1 i σ' H', Pv H1 i σ' H' → Tx H1 H')
    (hs : ∀ H1 i x a σ' H', Ex H H1 → l[i]? = some a → Rp H' x (enc a) → Pv H1 i σ' H' → g x σ' H' fun σ2 H2 => tu { D with nx := Pv H1 (i + 1), ct := Pv H1 (i + 1), bk := D.nx } σ2 H2) (hd : ∀ H1 σ' H', Ex H H1 → Pv H1 l.length σ' H' → D.nx σ' H') :
    tFor (iTup K tl) g tu D σ H := h H (Ex.refl H) _ fun v H1 e r => by
  obtain ⟨a, xs, rfl, ha, rs⟩ := r.tupE
  have hl : xs.length = l.length := by rw [rs.len, List.length_map]
  refine ⟨a, rfl, ⟨xs, SqT.of ha⟩, for_tup (K := K) (a := a) (xs := xs) (Pv H1) (h0 H1 e) (fun i σ' H' _ p => SqT.of (hT H1 i σ' H' p _ _ ha)) (fun i x σ' H' hi p => ?_) (fun σ' H' p => hd H1 σ' H' e (by rw [← hl]; exact p))⟩
  obtain ⟨d, hd, rd⟩ := rs.getV hi
  rw [List.getElem?_map] at hd
  cases hc : l[i]? with
  | none => rw [hc] at hd; cases hd
  | some b =>
    rw [hc] at hd
    obtain rfl : enc b = d := Option.some.inj hd
    exact hs H1 i x b σ' H' e hc (rd.up (hT H1 i σ' H' p)) p
theorem qd_forT {α : Type} {l : List α} {enc : α → PyData} {tl : TE} {g : TG} (h : ED tl σ H (.tuple (l.map enc))) (Pv : Hp → Nat → L2.St → Hp → Prop) (h0 : ∀ H1, Ex H H1 → Pv H1 0 σ H1) (hT : ∀ H1 i σ' H', Pv H1 i σ' H' → Tx H1 H')
    (hs : ∀ H1 i x a σ' H', Ex H H1 → l[i]? = some a → Rp H' x (enc a) → Pv H1 i σ' H' → g x σ' H' fun σ2 H2 => tu { D with nx := Pv H1 (i + 1), ct := Pv H1 (i + 1), bk := tz D } σ2 H2) (hd : ∀ H1 σ' H', Ex H H1 → Pv H1 l.length σ' H' → tz D σ' H') :
    tSeq (tFor (iTup K tl) g tu) tz D σ H := sd_forT (D := { D with nx := tz D }) h Pv h0 hT hs hd
/-- for i in range(n) -/
theorem sd_forR {ta : TA} {j n : Nat} (h : EA ta σ H [.int (n : Int)]) (hn : n ≤ 100000) (Pv : Nat → L2.St → Hp → Prop) (h0 : ∀ H1, Ex H H1 → Pv 0 σ H1)
    (hs : ∀ (i : Nat) σ' H', i < n → Pv i σ' H' → tu { D with nx := Pv (i + 1), ct := Pv (i + 1), bk := D.nx } (σ'.set j (some (.int (i : Int)))) H') (hd : ∀ σ' H', Pv n σ' H' → D.nx σ' H') : tFor (iRng1 ta) (gName j) tu D σ H :=
  s_forR1 (n := (n : Int)) (fun H1 e Q q => h H1 e _ fun vs H2 e2 r => by
    obtain ⟨v, rfl, r0⟩ := r.e1
    rw [r0.intE]
    exact q H2 e2) (by omega) Pv h0 (fun i σ' H' hi p => hs i σ' H' (by omega) p) (fun σ' H' p => hd σ' H' (by rw [Int.toNat_natCast] at p; exact p))
theorem qd_forR {ta : TA} {j n : Nat} (h : EA ta σ H [.int (n : Int)]) (hn : n ≤ 100000) (Pv : Nat → L2.St → Hp → Prop) (h0 : ∀ H1, Ex H H1 → Pv 0 σ H1)
    (hs : ∀ (i : Nat) σ' H', i < n → Pv i σ' H' → tu { D with nx := Pv (i + 1), ct := Pv (i + 1), bk := tz D } (σ'.set j (some (.int (i : Int)))) H') (hd : ∀ σ' H', Pv n σ' H' → tz D σ' H') : tSeq (tFor (iRng1 ta) (gName j) tu) tz D σ H :=
  sd_forR (D := { D with nx := tz D }) h hn Pv h0 hs hd
/-- l.append(e), l a list at p that H0 does not know -/
theorem sd_app {p : Addr} (hp : LAt H p ds) (ha : Ev ta σ H (.ref p)) (h : ED te σ H d) (hz : ds.length < 100000) (k : ∀ H1 vs v, Ex H H1 → LAt (upd H1 p (.lst (vs ++ [v]))) p (ds ++ [d]) → Tx H1 (upd H1 p (.lst (vs ++ [v]))) → D.nx σ (upd H1 p (.lst (vs ++ [v])))) :
    tDrop (tBM K "list" rAppend ta (tCons te tNil)) D σ H := ha H (Ex.refl H) _ fun H1 e1 => by
  obtain ⟨vs, h1, r1⟩ := hp
  refine ⟨.inl ⟨rfl, vs, SqL.of (e1 _ _ h1)⟩, h H1 e1 _ fun v H2 e2 r => ⟨p, vs, v, rfl, rfl, e2 _ _ (e1 _ _ h1), sz_lt (by rw [r1.len]; exact hz), ?_⟩⟩
  have t : Tx H2 (upd H2 p (.lst (vs ++ [v]))) := Tx.upd (e2 _ _ (e1 _ _ h1)) True.intro
  exact k H2 vs v (e1.trans e2) ⟨_, upd_same, ((r1.ex (e1.trans e2)).append (.one r)).up t⟩ t
theorem sp_app {p : Addr} {P : PyData → Prop} (hp : LAt H p ds) (ha : Ev ta σ H (.ref p)) (h : ∀ H1, Ex H H1 → ∀ Q : VK, (∀ v d H2, Ex H1 H2 → Rp H2 v d → P d → Q v H2) → te σ H1 Q) (hz : ds.length < 100000)
    (k : ∀ H1 vs v d, Ex H H1 → P d → LAt (upd H1 p (.lst (vs ++ [v]))) p (ds ++ [d]) → Tx H1 (upd H1 p (.lst (vs ++ [v]))) → D.nx σ (upd H1 p (.lst (vs ++ [v])))) :
    tDrop (tBM K "list" rAppend ta (tCons te tNil)) D σ H := ha H (Ex.refl H) _ fun H1 e1 => by
  obtain ⟨vs, h1, r1⟩ := hp
  refine ⟨.inl ⟨rfl, vs, SqL.of (e1 _ _ h1)⟩, h H1 e1 _ fun v d H2 e2 r pd => ⟨p, vs, v, rfl, rfl, e2 _ _ (e1 _ _ h1), sz_lt (by rw [r1.len]; exact hz), ?_⟩⟩
  have t : Tx H2 (upd H2 p (.lst (vs ++ [v]))) := Tx.upd (e2 _ _ (e1 _ _ h1)) True.intro
  exact k H2 vs v d (e1.trans e2) pd ⟨_, upd_same, ((r1.ex (e1.trans e2)).append (.one r)).up t⟩ t
theorem qd_app {p : Addr} (hp : LAt H p ds) (ha : Ev ta σ H (.ref p)) (h : ED te σ H d) (hz : ds.length < 100000) (k : ∀ H1 vs v, Ex H H1 → LAt (upd H1 p (.lst (vs ++ [v]))) p (ds ++ [d]) → Tx H1 (upd H1 p (.lst (vs ++ [v]))) → tz D σ (upd H1 p (.lst (vs ++ [v])))) :
    tSeq (tDrop (tBM K "list" rAppend ta (tCons te tNil))) tz D σ H := sd_app (D := { D with nx := tz D }) hp ha h hz k
theorem qp_app {p : Addr} {P : PyData → Prop} (hp : LAt H p ds) (ha : Ev ta σ H (.ref p)) (h : ∀ H1, Ex H H1 → ∀ Q : VK, (∀ v d H2, Ex H1 H2 → Rp H2 v d → P d → Q v H2) → te σ H1 Q) (hz : ds.length < 100000)
    (k : ∀ H1 vs v d, Ex H H1 → P d → LAt (upd H1 p (.lst (vs ++ [v]))) p (ds ++ [d]) → Tx H1 (upd H1 p (.lst (vs ++ [v]))) → tz D σ (upd H1 p (.lst (vs ++ [v])))) :
    tSeq (tDrop (tBM K "list" rAppend ta (tCons te tNil))) tz D σ H := sp_app (D := { D with nx := tz D }) hp ha h hz k
theorem qd_asgL {k : Nat} (h : EL te σ H ds) (q : ∀ p H1, H p = none → Ex H H1 → LAt H1 p ds → tz D (σ.set k (some (.ref p))) H1) : tSeq (tAsg te (gName k)) tz D σ H := h H (Ex.refl H) _ q
end
end Wd

namespace Wd
open PySem PySem.Spec PyProof.Rows L2 Evl
/-! ### defs of the text, the built-ins' names -/
structure Bt (mg : Str → Option Value) : Prop where
  len : mg "len" = none
  range : mg "range" = none
  sum : mg "sum" = none
  tuple : mg "tuple" = none
  list : mg "list" = none
  int : mg "int" = none
  min : mg "min" = none
  max : mg "max" = none
  sorted : mg "sorted" = none
  enumerate : mg "enumerate" = none
  isinstance : mg "isinstance" = none
  all : mg "all" = none
  set : mg "set" = none
  bool : mg "bool" = none
structure DefAt (K : PySem.W.Frag) (mg : Str → Option Value) (x : Str) (st : Stmt) (ps : List Str) : Prop where
  ex : ∃ (f : Addr) (fd : FuncData), Fun K x x st f fd ∧ mg x = some (.ref f) ∧ Binds K fd ps []
section
variable {P : Program} {w : World} {K : PySem.W.Frag} {mg : Str → Option Value} {base : Heap}
theorem cal_ok {x : Str} {st : Stmt} {N ps : List Str} {k : Nat} {sp : Sp} (F : DefAt K mg x st ps) (S : FnScope N ps (defScope st)) (len : ∀ vs H Q E, sp vs H Q E → vs.length = ps.length)
    (hbody : ∀ (f : Addr) (cdv : Value) (A : Around) (outer : List Env) (s : Shared) (H : Hp) (vs : List V) (Q : VK) (E : XK), Room k (A.deeper (envOfC x (defScope st) s.heap.objs.size f cdv)) → sp vs H Q E →
      ∃ t, PSs (cxOf CX0 P w K mg base N x (defScope st) f cdv A outer s H E).nox (defBody st) t ∧ t { nx := fun _ H' => Q .non H', rt := Q } (start N vs) H) : C8.Cal P w K mg base (k + 1) x sp [] := by
  obtain ⟨f, fd, G, hm, b⟩ := F.ex
  exact ⟨f, fd, ps, [], G.ok S len fun cdv A outer s H vs Q E hr h => hbody f cdv A outer s H vs Q E hr h, hm, G.kp, b, .nil⟩
end
/-- called with data of which pre holds it hands back some data of which post holds, and changes nothing -/
def SpP (pre : List PyData → Prop) (post : List PyData → PyData → Prop) : Sp := fun vs H Q _ => ∃ ds, RpA H vs ds ∧ pre ds ∧ ∀ v d H', Ex H H' → Rp H' v d → post ds d → Q v H'
def EP (te : TE) (σ : L2.St) (H : Hp) (P : PyData → Prop) : Prop := ∀ H1, Ex H H1 → ∀ Q : VK, (∀ v d H2, Ex H1 H2 → Rp H2 v d → P d → Q v H2) → te σ H1 Q
section
variable {K : PySem.W.Frag} {σ : L2.St} {H H' : Hp} {ta tb te tx : TE} {t u : TT} {ds : List PyData} {P : PyData → Prop} {D : Ends} {tz : TS}
theorem ep_call {pre : List PyData → Prop} {post : List PyData → PyData → Prop} {E : XK} {ta : TA} (h : EA ta σ H ds) (hr : pre ds) : EP (tCall (SpP pre post) [] E ta) σ H (post ds) := fun H1 x Q q =>
  h H1 x _ fun vs H2 x2 r => ⟨ds, by rw [List.append_nil]; exact r, hr, fun v d H3 x3 s p => q v d H3 (x2.trans x3) s p⟩
theorem ep_asg {k : Nat} (h : EP te σ H P) (q : ∀ v d H1, Ex H H1 → Rp H1 v d → P d → D.nx (σ.set k (some v)) H1) : tAsg te (gName k) D σ H := h H (Ex.refl H) _ q
theorem qp_asg {k : Nat} (h : EP te σ H P) (q : ∀ v d H1, Ex H H1 → Rp H1 v d → P d → tz D (σ.set k (some v)) H1) : tSeq (tAsg te (gName k)) tz D σ H := h H (Ex.refl H) _ q
end
theorem SpR.len {R : List PyData → PyData → Prop} {vs : List V} {H : Hp} {Q : VK} {E : XK} {n : Nat} (h : SpR R vs H Q E) (hn : ∀ ds d, R ds d → ds.length = n) : vs.length = n := by
  obtain ⟨ds, d, r, q, _⟩ := h
  rw [r.len]
  exact hn _ _ q
theorem SpP.len {pre : List PyData → Prop} {post : List PyData → PyData → Prop} {vs : List V} {H : Hp} {Q : VK} {E : XK} {n : Nat} (h : SpP pre post vs H Q E) (hn : ∀ ds, pre ds → ds.length = n) : vs.length = n := by
  obtain ⟨ds, r, q, _⟩ := h
  rw [r.len]
  exact hn _ q
end Wd

namespace Wd
open PySem PySem.Spec PyProof.Rows L2 Evl
theorem map_erase : ∀ (l : List Int) (k : Nat), (l.map V.int).eraseIdx k = (l.eraseIdx k).map V.int
  | [], _ => rfl
  | _ :: _, 0 => rfl
  | x :: l, k + 1 => by
    show V.int x :: (l.map V.int).eraseIdx k = V.int x :: (l.eraseIdx k).map V.int
    rw [map_erase l k]
theorem seqIndex_nat {r : Int} {n : Nat} (h0 : 0 ≤ r) (h1 : r < n) : seqIndex? r n = some r.toNat := by
  unfold seqIndex?
  simp only [show ¬ r < 0 by omega, if_false]
  simp [h0, h1]
theorem perm_pop {out ls l0 : List Int} {k : Nat} {y : Int} (h : (out ++ ls).Perm l0) (hk : ls[k]? = some y) : ((out ++ [y]) ++ ls.eraseIdx k).Perm l0 := by
  refine List.Perm.trans ?_ h
  rw [List.append_assoc]
  refine List.Perm.append_left out ?_
  obtain ⟨hlt, he⟩ := List.getElem?_eq_some_iff.mp hk
  have e : (ls.take k ++ [y] ++ ls.drop (k + 1)) = ls := by
    rw [← he]
    simp
  rw [List.eraseIdx_eq_take_drop_succ]
  refine List.Perm.trans ?_ (List.Perm.of_eq e)
  rw [List.append_assoc]
  exact (List.perm_middle (l₁ := ls.take k) (l₂ := ls.drop (k + 1)) (a := y)).symm
section
variable {K : PySem.W.Frag} {σ : L2.St} {H H0 : Hp} {ta te tl : TE}
/-- [l.pop(e) for k in range(n)], l a list of n ints at p, all of which are taken out in some order -/
theorem pop_all {ta : TA} {p : Addr} {n j x1 : Nat} {vs : List Nat} {ls : List Int} {Q : VK} (e0 : Ex H0 H) (hp0 : H0 p = none) (hp : H p = some (.lst (ls.map V.int))) (hls : ls.length = n) (hn : n ≤ 1000) (ha : EA ta σ H [.int (n : Int)])
    (hw : ∀ x, wipe ((wipe σ vs).set j (some x)) vs = wipe σ vs) (hl : ∀ x, ((wipe σ vs).set j (some x))[x1]? = some (some (.ref p)))
    (ht : ∀ (i : Nat) H', Ex H0 H' → i < n → ∃ r : Int, 0 ≤ r ∧ r < (n : Int) - (i : Int) ∧ ED te ((wipe σ vs).set j (some (.int (i : Int)))) H' (.int r))
    (q : ∀ D H' (out : List Int), H D = none → Ex H0 H' → H' D = some (.lst (out.map V.int)) → out.Perm ls → Q (.ref D) H') :
    tLc (iRng1 ta) (gName j) tYes (tBM K "list" rPopAt (tVar x1) (tCons te tNil)) vs σ H Q := ha H (Ex.refl H) _ fun us H1 e1 r => by
  obtain ⟨v, rfl, r0⟩ := r.e1
  refine ⟨n, by rw [r0.intE], by omega, by omega, fun Dl hD => ?_⟩
  have hpD : p ≠ Dl := ne_of_none (e1 _ _ hp) hD
  have hD0 : H0 Dl = none := fresh_back (e0.trans e1) hD
  refine lc_range (lo := 0) (n := (n : Int).toNat) (fun i H' => ∃ out rest : List Int, Ex H0 H' ∧ H' Dl = some (.lst (out.map V.int)) ∧ H' p = some (.lst (rest.map V.int)) ∧ (out ++ rest).Perm ls ∧ out.length = i) ?_ ?_ ?_
  · exact ⟨[], ls, (e0.trans e1).trans (Ex.new hD), upd_same, by rw [upd_ne hpD]; exact e1 _ _ hp, List.Perm.refl _, rfl⟩
  · rintro i H' hi ⟨out, rest, k1, k2, k3, k4, k5⟩
    have hin : i < n := by simpa using hi
    have hrl : rest.length = n - i := by
      have := k4.length_eq
      rw [List.length_append] at this
      omega
    have e2 : (0 : Int) + (i : Int) = (i : Int) := Int.zero_add _
    show wipe ((wipe σ vs).set j (some (.int ((0 : Int) + (i : Int))))) vs = wipe σ vs ∧ tYes ((wipe σ vs).set j (some (.int ((0 : Int) + (i : Int))))) H' _
    rw [e2]
    refine ⟨hw _, ?_⟩
    unfold tYes
    refine iteT ?_
    obtain ⟨r, hr0, hr1, he⟩ := ht i H' k1 hin
    refine ⟨.ref p, hl _, .inl ⟨rfl, _, SqL.of k3⟩, ?_⟩
    refine he H' (Ex.refl H') _ fun v H2 x2 rv => ?_
    have hrn : r.toNat < rest.length := by omega
    have hy : rest[r.toNat]? = some rest[r.toNat] := List.getElem?_eq_getElem hrn
    refine ⟨p, rest.map V.int, r, r.toNat, .int rest[r.toNat], rfl, by rw [rv.intE], x2 _ _ k3, by omega, by omega, by rw [List.length_map]; exact seqIndex_nat hr0 (by omega), by rw [List.getElem?_map, hy]; rfl, ?_⟩
    refine ⟨out.map V.int, by rw [upd_ne (Ne.symm hpD)]; exact x2 _ _ k2, by rw [List.length_map]; exact sz_lt (by omega), ?_⟩
    refine ⟨out ++ [rest[r.toNat]], rest.eraseIdx r.toNat, Ex.mut (Ex.mut (k1.trans x2) hp0) hD0, by rw [upd_same, List.map_append]; rfl, ?_, perm_pop k4 hy, by simp [k5]⟩
    rw [upd_ne hpD, upd_same]
    congr 2
    exact map_erase _ _
  · rintro H' ⟨out, rest, k1, k2, k3, k4, k5⟩
    have hre : rest = [] := by
      have := k4.length_eq
      rw [List.length_append, k5, hls] at this
      rw [Int.toNat_natCast] at this
      exact List.eq_nil_of_length_eq_zero (by omega)
    rw [hre, List.append_nil] at k4
    exact q Dl H' out (fresh_back e1 hD) k1 k2 k4
end
end Wd

namespace Wd
open PySem PySem.Spec PyProof.Rows L2 Evl
/-! ### the rules with the written part K told (within a comprehension X's own K would hang on the block) -/
section
variable {X : Cx} {K : PySem.W.Frag}
theorem ix_tupK (h : X.K = K) : IxR X (rIxT K) := by subst h; exact ix_tup
theorem ix_listK (h : X.K = K) : IxR X (rIxL K) := by subst h; exact ix_list
theorem lenK (h : X.K = K) : CallR X (.builtin "len") (rLen K) := by subst h; exact call_len_seq
theorem sumK (h : X.K = K) (hc : X.calm = true) : CallR X (.builtin "sum") (rSum K) := by subst h; exact cr_sum hc
theorem allK (h : X.K = K) (hc : X.calm = true) : CallR X (.builtin "all") (rAll K) := by subst h; exact cr_all hc
theorem minK (h : X.K = K) (hc : X.calm = true) : CallR X (.builtin "min") (rMin K) := by subst h; exact cr_min hc
theorem maxK (h : X.K = K) (hc : X.calm = true) : CallR X (.builtin "max") (rMax K) := by subst h; exact cr_max hc
theorem tupleK (h : X.K = K) : CallR X (.type "tuple") (rTupOf K) := by subst h; exact call_tuple_of
theorem listK (h : X.K = K) : CallR X (.type "list") (rLstOf K) := by subst h; exact call_list_of
theorem isiK (h : X.K = K) : CallR X (.builtin "isinstance") (rIsi K) := by subst h; exact call_isi
theorem inK (h : X.K = K) : OpR X (compareOp .In) (rIn K false) := by subst h; exact op_in_seq
theorem notInK (h : X.K = K) : OpR X (compareOp .NotIn) (rIn K true) := by subst h; exact op_notIn_seq
theorem eqK (h : X.K = K) (hu : X.A.units + 64 < cLine) : OpR X (compareOp .Eq) (rEqD K) := by subst h; exact op_eqD hu
theorem neK (h : X.K = K) (hu : X.A.units + 64 < cLine) : OpR X (compareOp .NotEq) (rNeD K) := by subst h; exact op_neD hu
theorem catK (h : X.K = K) : OpR X (binaryOp .Add) (rCatA K) := by subst h; exact op_catA
theorem slK (h : X.K = K) : SlR X (rSlA K) := by subst h; exact sl_tupA
theorem pi_tupK {tg l : Expr} {tl : TE} (h : X.K = K) (hl : PE X l tl) : PI X tg l (iTup K tl) := by subst h; exact pi_tup hl
theorem pi_listK {tg l : Expr} {tl : TE} (h : X.K = K) (hl : PE X l tl) : PI X tg l (iList K tl) := by subst h; exact pi_list hl
theorem pg_tupK {pos : Pos} {es : List Expr} {k : Nat} {t : TGs} {n : Nat} (h : X.K = K) (hc : X.calm = true) (hg : PGs X es t) (hn : (assignEach es X.env).length = n := by rfl) (hst : (assignEach es X.env).findIdx? (·.1) = none := by rfl) : PG X (.Tuple es k pos) (gTup K n t) := by
  subst h; exact pg_tup hc hg hn hst
theorem pe_bmK {T : String} {r : V → List V → Hp → VK → Prop} {id : String} {name : Str} {o e : Expr} {es : List Expr} {apos cpos : Pos} {to : TE} {t : TA} (h : X.K = K) (pa : PlainAttrs T) (slot : Slot T name id) (hty : typeOf (.builtin id) = pure (.type "method_descriptor")) (hm : MtR X id r) (ho : PE X o to) (ha : PA X (e :: es) t)
    (hbase : attributeBase o name X.env (eval o X.env) = eval o X.env := by rfl)
    (hfew : ((backTo cpos (starEach (e :: es) X.env)).all (fun x => !x.1) && (backToKw cpos (keywordEach [] X.env)).all (fun x => x.1.isSome)
      && decide ((e :: es).length + ([] : List Keyword).length + (if ([] : List Keyword).isEmpty then 0 else 1) < 30)) = true := by rfl)
    (hline : (apos.endLine == cpos.line) = true := by rfl) (hs : starEach (e :: es) X.env = (false, eval e X.env) :: starEach es X.env := by rfl) (hplain : (backTo cpos (starEach es X.env)).any (·.1) = false := by rfl) :
    PE X (.Call (.Attribute o name apos) (e :: es) [] cpos) (tBM K T r to t) := by subst h; exact pe_bm pa slot hty hm ho ha hbase hfew hline hs hplain
end
end Wd

namespace Wd
open PySem PySem.Spec PyProof.Rows L2 Evl
/-! ### the end -/
section
variable {P : Program} {w : World} {K : PySem.W.Frag} {mg : Str → Option Value} {base : Heap}
theorem bt_mk {h : Heap} (X : K.In h) (G : h.Ns mainGlobals mg)
    (a1 : PySem.W.nsIn K mainGlobals "len" = some none) (a2 : PySem.W.nsIn K mainGlobals "range" = some none) (a3 : PySem.W.nsIn K mainGlobals "sum" = some none) (a4 : PySem.W.nsIn K mainGlobals "tuple" = some none)
    (a5 : PySem.W.nsIn K mainGlobals "list" = some none) (a6 : PySem.W.nsIn K mainGlobals "int" = some none) (a7 : PySem.W.nsIn K mainGlobals "min" = some none) (a8 : PySem.W.nsIn K mainGlobals "max" = some none)
    (a9 : PySem.W.nsIn K mainGlobals "sorted" = some none) (a10 : PySem.W.nsIn K mainGlobals "enumerate" = some none) (a11 : PySem.W.nsIn K mainGlobals "isinstance" = some none) (a12 : PySem.W.nsIn K mainGlobals "all" = some none)
    (a13 : PySem.W.nsIn K mainGlobals "set" = some none) (a14 : PySem.W.nsIn K mainGlobals "bool" = some none) : Bt mg :=
  have n {x : Str} (a : PySem.W.nsIn K mainGlobals x = some none) : mg x = none := PySem.W.mg_none_of X G a
  ⟨n a1, n a2, n a3, n a4, n a5, n a6, n a7, n a8, n a9, n a10, n a11, n a12, n a13, n a14⟩
theorem def_mk {h : Heap} {x : Str} {st : Stmt} {ps : List Str} {f : Addr} {oc : Value} {od an : Option Addr} {osl : Array (Option Value)} {kV doc pm cdv ct : Value} (X : K.In h) (G : h.Ns mainGlobals mg)
    (a : PySem.W.nsIn K mainGlobals x = some (some (.ref f))) (l : K.lookup f = some ⟨oc, od, .func (PySem.W.fnOf x x (defArgs st) (defBody st) (defScope st) .none kV doc pm an cdv ct), osl⟩) (c : PySem.W.codeIn K cdv x = true) (k : PySem.W.keepIn K (.ref f) = true)
    (b : ∀ (kV doc pm : Value) (an : Option Addr) (cdv ct : Value) (us : List Value), us.length = ps.length → bindArgs (PySem.W.fnOf x x (defArgs st) (defBody st) (defScope st) .none kV doc pm an cdv ct) ⟨us, []⟩ = pure (ps.zip us)) : DefAt K mg x st ps :=
  ⟨f, _, fun_mk l c k, PySem.W.mg_of X G a, (fun_mk l c k).binds b⟩
end
end Wd
/-! The mirrors: what the defs reckon, on plain lists. -/
namespace Wm
open PySem L2 Wd Evl
/-- a ballot, a box -/
def dB (b : List Int) : PyData := .tuple (b.map PyData.int)
def dBox (n : Nat) (bs : List (List Int)) : PyData := .tuple [.int (n : Int), .tuple (bs.map dB)]
structure Wf (n : Nat) (bs : List (List Int)) : Prop where
  len : bs.length ≤ 100
  many : n ≤ 20
  each : ∀ b ∈ bs, b.length = n
def sgn (x y : Int) : Int := (if decide (x < y) then 1 else 0) - (if decide (y < x) then 1 else 0)
def sgnAt (b : List Int) (i j : Nat) : Int := sgn (b.getD i 0) (b.getD j 0)
def lead (bs : List (List Int)) (i j : Nat) : Int := (bs.map fun b => sgnAt b i j).sum
def R_sign (ds : List PyData) (d : PyData) : Prop := ∃ (b : List Int) (i j : Nat), ds = [dB b, .int (i : Int), .int (j : Int)] ∧ i < b.length ∧ j < b.length ∧ d = .int (sgnAt b i j)
def R_lead (ds : List PyData) (d : PyData) : Prop := ∃ (n : Nat) (bs : List (List Int)) (i j : Nat), ds = [dBox n bs, .int (i : Int), .int (j : Int)] ∧ Wf n bs ∧ i < n ∧ j < n ∧ d = .int (lead bs i j)
def R_beats (ds : List PyData) (d : PyData) : Prop := ∃ (n : Nat) (bs : List (List Int)) (i j : Nat), ds = [dBox n bs, .int (i : Int), .int (j : Int)] ∧ Wf n bs ∧ i < n ∧ j < n ∧ d = .bool (decide (0 < lead bs i j))
def dRow (n : Nat) (bs : List (List Int)) (i : Nat) : PyData := .tuple ((List.range n).map fun j => .int (lead bs i j))
def dTab (n : Nat) (bs : List (List Int)) : PyData := .tuple ((List.range n).map fun i => dRow n bs i)
def R_table (ds : List PyData) (d : PyData) : Prop := ∃ (n : Nat) (bs : List (List Int)), ds = [dBox n bs] ∧ Wf n bs ∧ d = dTab n bs
theorem dB_get {b : List Int} {i : Nat} (h : i < b.length) : (b.map PyData.int)[i]? = some (.int (b.getD i 0)) := by
  rw [List.getElem?_map, List.getElem?_eq_getElem h]
  simp [h]
/-! ### the law's own defs -/
def spCell (K : PySem.W.Frag) : Sp := fun vs H Q _ => ∃ (a : Addr) (ns : List Int) (k : Nat), vs = [.ref a, .int (k : Int)] ∧ SqL K H a (ns.map V.int) ∧ Q (.int (ns.getD k 0)) H
def R_mix (ds : List PyData) (d : PyData) : Prop := ∃ c p m : Int, ds = [.int c, .int p, .int m] ∧ 0 < p ∧ 0 < m ∧ d = .int (c * 48271 % p % m)
def Pl (b : List Int) : Prop := ∀ x ∈ b, 0 ≤ x ∧ x ≤ 99
def pre_ballot (ds : List PyData) : Prop := ∃ (c : Int) (n w : Nat), ds = [.int c, .int (n : Int), .int (w : Int)] ∧ 1 ≤ n ∧ n ≤ 20 ∧ w < 3
def post_ballot (ds : List PyData) (d : PyData) : Prop := ∀ (c : Int) (n w : Nat), ds = [.int c, .int (n : Int), .int (w : Int)] → ∃ b : List Int, d = dB b ∧ b.length = n ∧ Pl b
/-- a box as the law makes it -/
structure Box (most n : Nat) (bs : List (List Int)) : Prop where
  one : 1 ≤ n
  le : n ≤ most
  len : bs.length ≤ 28
  each : ∀ b ∈ bs, b.length = n ∧ Pl b
def spBox (K : PySem.W.Frag) : Sp := fun vs H Q _ => ∃ (a : Addr) (ns : List Int) (most : Nat), vs = [.ref a, .int (most : Int)] ∧ SqL K H a (ns.map V.int) ∧ 1 ≤ most ∧ most ≤ 20 ∧
  ∀ v H' n bs, Ex H H' → Box most n bs → Rp H' v (dBox n bs) → Q v H'
def R_llead (ds : List PyData) (d : PyData) : Prop := R_lead ds d
def R_whole (ds : List PyData) (d : PyData) : Prop := ∃ i : Int, ds = [.int i] ∧ d = .bool true
/-- the law's promise -/
def spLaw (K : PySem.W.Frag) : Sp := fun vs H Q _ => ∃ (a : Addr) (ns : List Int), vs = [.ref a] ∧ SqL K H a (ns.map V.int) ∧ ns.length ≤ 63 ∧ (∀ z ∈ ns, Builtin.Int.intBits z ≤ 1048576) ∧ ∀ H', Q (.bl true) H'
theorem Box.wf {most n : Nat} {bs : List (List Int)} (h : Box most n bs) (hm : most ≤ 20) : Wf n bs := ⟨by have := h.len; omega, by have := h.le; omega, fun b hb => (h.each b hb).1⟩
/-- data without texts, dicts, at most k deep -/
structure Sh (k : Nat) (d : PyData) : Prop where
  lay : d.canLay0 = true
  dep : d.depth ≤ k
theorem Sh.int (k : Nat) (i : Int) : Sh k (.int i) := ⟨by simp [PyData.canLay0], by simp [PyData.depth]⟩
theorem Sh.non (k : Nat) : Sh k .none := ⟨by simp [PyData.canLay0], by simp [PyData.depth]⟩
theorem Sh.bool (k : Nat) (b : Bool) : Sh k (.bool b) := ⟨by simp [PyData.canLay0], by simp [PyData.depth]⟩
theorem lay_all : ∀ {ds : List PyData}, (∀ d ∈ ds, d.canLay0 = true) → PyData.canLayAll0 ds = true
  | [], _ => by simp [PyData.canLayAll0]
  | d :: ds, h => by
    simp only [PyData.canLayAll0, Bool.and_eq_true]
    exact ⟨h d List.mem_cons_self, lay_all fun x hx => h x (List.mem_cons_of_mem _ hx)⟩
theorem dep_all {k : Nat} : ∀ {ds : List PyData}, (∀ d ∈ ds, d.depth ≤ k) → PyData.depthAll ds ≤ k
  | [], _ => by simp [PyData.depthAll]
  | d :: ds, h => by
    have h1 := h d List.mem_cons_self
    have h2 := dep_all (k := k) (ds := ds) fun x hx => h x (List.mem_cons_of_mem _ hx)
    simp only [PyData.depthAll]
    omega
theorem Sh.tup {k : Nat} {ds : List PyData} (h : ∀ d ∈ ds, Sh k d) : Sh (k + 1) (.tuple ds) :=
  ⟨by simp only [PyData.canLay0]; exact lay_all fun d hd => (h d hd).lay, by simp only [PyData.depth]; exact Nat.succ_le_succ (dep_all fun d hd => (h d hd).dep)⟩
theorem Sh.lst {k : Nat} {ds : List PyData} (h : ∀ d ∈ ds, Sh k d) : Sh (k + 1) (.list ds) :=
  ⟨by simp only [PyData.canLay0]; exact lay_all fun d hd => (h d hd).lay, by simp only [PyData.depth]; exact Nat.succ_le_succ (dep_all fun d hd => (h d hd).dep)⟩
theorem Sh.mono {j k : Nat} {d : PyData} (h : Sh j d) (e : j ≤ k) : Sh k d := ⟨h.lay, Nat.le_trans h.dep e⟩
theorem Sh.ok {k : Nat} {d : PyData} (h : Sh k d) (e : k ≤ 64 := by decide) : SeqAt.shaped d = true := by
  show (d.canLay0 && decide (d.depth ≤ 64)) = true
  rw [Bool.and_eq_true]
  exact ⟨h.lay, decide_eq_true (Nat.le_trans h.dep e)⟩
theorem Sh.refl {k : Nat} {d : PyData} (h : Sh k d) : PyData.eqv d d = true := SeqAt.eqv_refl d h.lay
theorem sh_dB (b : List Int) : Sh 1 (dB b) := Sh.tup fun d hd => by
  obtain ⟨i, _, rfl⟩ := List.mem_map.mp hd
  exact Sh.int 0 i
theorem sh_dBox (n : Nat) (bs : List (List Int)) : Sh 3 (dBox n bs) := Sh.tup fun d hd => by
  simp only [List.mem_cons, List.not_mem_nil, or_false] at hd
  rcases hd with rfl | rfl
  · exact Sh.int 2 _
  · exact Sh.tup fun d hd => by
      obtain ⟨b, _, rfl⟩ := List.mem_map.mp hd
      exact sh_dB b
theorem sh_dTab (n : Nat) (bs : List (List Int)) : Sh 2 (dTab n bs) := Sh.tup fun d hd => by
  obtain ⟨i, _, rfl⟩ := List.mem_map.mp hd
  exact Sh.tup fun d hd => by
    obtain ⟨j, _, rfl⟩ := List.mem_map.mp hd
    exact Sh.int 0 _
end Wm
namespace Wl
open PySem L2 Wd Wm Evl C8
def top (i : Nat) : Stmt := PySem.Challenge.pw_wishcount_k02_leads.main.body.getD i (.Pass ⟨0, 0, 0, 0⟩)
end Wl
namespace Wl
open PySem L2 Wd Wm Evl C8
section
variable {P : Program} {w : World} {K : PySem.W.Frag} {mg : Str → Option Value} {base : Heap}
-- slots 0:ballot 1:one 2:other
abbrev s_sign : Stmt := top 1
theorem sc_sign : FnScope ["ballot", "one", "other"] ["ballot", "one", "other"] (defScope s_sign) := ⟨rfl, rfl, rfl, by decide +kernel, rfl, by decide +kernel, by decide +kernel⟩
theorem ok_sign (B : Bt mg) (F : DefAt K mg "sign" s_sign ["ballot", "one", "other"]) : Cal P w K mg base 1 "sign" (SpR R_sign) [] := by
  refine cal_ok F sc_sign (fun vs H Q E h => h.len (n := 3) fun ds d ⟨_, _, _, e, _⟩ => by rw [e]; rfl) (fun f cdv A outer s H vs Q E hr h => ?_)
  obtain ⟨ds, d, tv, ⟨b, i, j, rfl, hi, hj, rfl⟩, k⟩ := h
  obtain ⟨v0, v1, v2, rfl, t0, t1, t2⟩ := tv.e3
  refine ⟨_, ((pss_one (ps_ret (pe_op op_sub (pe_callTy (T := "int") call_int1 (by rfl) B.int (by decide +kernel) (pa_cons (pe_cmpR op_lt (pe_ix (ix_tupK (K := K) rfl) (pv 0) (pv 1) (fun _ _ => rfl)) (pe_ix (ix_tupK (K := K) rfl) (pv 0) (pv 2) (fun _ _ => rfl)) (nomark _)) pa_nil)) (pe_callTy (T := "int") call_int1 (by rfl) B.int (by decide +kernel) (pa_cons (pe_cmpR op_lt (pe_ix (ix_tupK (K := K) rfl) (pv 0) (pv 2) (fun _ _ => rfl)) (pe_ix (ix_tupK (K := K) rfl) (pv 0) (pv 1) (fun _ _ => rfl)) (nomark _)) pa_nil)))))), ?_⟩
  have e0 : ∀ {H}, Rp H v0 (dB b) → ED (tVar 0) [some v0, some v1, some v2] H (dB b) := fun t => ed_var rfl t
  exact sd_ret (ed_I (ed_intB (ed_B (ed_ix (ed_var rfl t0) (ed_var rfl t1) (dB_get hi)) (ed_ix (ed_var rfl t0) (ed_var rfl t2) (dB_get hj))))
    (ed_intB (ed_B (ed_ix (ed_var rfl t0) (ed_var rfl t2) (dB_get hj)) (ed_ix (ed_var rfl t0) (ed_var rfl t1) (dB_get hi))))) k

-- slots 0:box 1:one 2:other 3:ballot
abbrev s_lead : Stmt := top 2
theorem sc_lead : FnScope ["box", "one", "other", "ballot"] ["box", "one", "other"] (defScope s_lead) := ⟨rfl, rfl, rfl, by decide +kernel, rfl, by decide +kernel, by decide +kernel⟩
theorem ok_lead (B : Bt mg) (C_sign : Cal P w K mg base 1 "sign" (SpR R_sign) []) (F : DefAt K mg "lead" s_lead ["box", "one", "other"]) : Cal P w K mg base 2 "lead" (SpR R_lead) [] := by
  refine cal_ok F sc_lead (fun vs H Q E h => h.len (n := 3) fun ds d ⟨_, _, _, _, e, _⟩ => by rw [e]; rfl) (fun f cdv A outer s H vs Q E hr h => ?_)
  obtain ⟨ds, d, tv, ⟨n, bs, i, j, rfl, wf, hi, hj, rfl⟩, k⟩ := h
  obtain ⟨v0, v1, v2, rfl, t0, t1, t2⟩ := tv.e3
  refine ⟨_, ((pss_one (ps_ret (pe_callB (id := "sum") (sumK (K := K) rfl rfl) (by rfl) B.sum (by decide +kernel) (pa_cons (pe_lc (own := [("ballot", 3)]) (by rfl) sc_lead.nd (pi_tupK (K := K) rfl (pe_ix (ix_tupK (K := K) rfl) (pv 0) pe_int (fun _ _ => rfl))) (blkOk_by (by rfl)) (fun _ _ _ _ _ => (pg_name (i := 3) sc_lead.nd rfl (by first | exact Or.inl rfl | exact Or.inr rfl))) (fun _ _ _ _ _ => pts_nil) (fun _ _ _ _ _ => (pe_c C_sign hr (by decide) (by rfl) (pa_cons (pv 3) (pa_cons (pv 1) (pa_cons (pv 2) pa_nil)))))) pa_nil))))), ?_⟩
  refine sd_ret ?_ k
  refine ed_sum (ns := bs.map fun b => sgnAt b i j) ?_
  rw [List.map_map]
  refine el_lcT0 (l := bs) (enc := dB) _ (ed_ix (k := 1) (ed_var rfl t0) ed_int rfl) (by have := wf.len; omega) (fun _ => rfl) fun x b H1 ex hb r => ?_
  have hl := wf.each b hb
  exact ed_call (ea_cons (ed_var rfl r) (ea_cons (ed_var rfl (t1.ex ex)) (ea_cons (ed_var rfl (t2.ex ex)) ea_nil))) ⟨b, i, j, rfl, by omega, by omega, rfl⟩

-- slots 0:box 1:one 2:other
abbrev s_table : Stmt := top 3
theorem sc_table : FnScope ["box", "one", "other"] ["box"] (defScope s_table) := ⟨rfl, rfl, rfl, by decide +kernel, rfl, by decide +kernel, by decide +kernel⟩
theorem ok_table (B : Bt mg) (C_lead : Cal P w K mg base 2 "lead" (SpR R_lead) []) (F : DefAt K mg "table" s_table ["box"]) : Cal P w K mg base 3 "table" (SpR R_table) [] := by
  refine cal_ok F sc_table (fun vs H Q E h => h.len (n := 1) fun ds d ⟨_, _, e, _⟩ => by rw [e]; rfl) (fun f cdv A outer s H vs Q E hr h => ?_)
  obtain ⟨ds, d, tv, ⟨n, bs, rfl, wf, rfl⟩, k⟩ := h
  obtain ⟨v0, rfl, t0⟩ := tv.e1
  refine ⟨_, ((pss_one (ps_ret (pe_callTy (T := "tuple") (tupleK (K := K) rfl) (by rfl) B.tuple (by decide +kernel) (pa_cons (pe_lc (own := [("one", 1)]) (by rfl) sc_table.nd (pi_range1 (by rfl) B.range (pa_cons (pe_ix (ix_tupK (K := K) rfl) (pv 0) pe_int (fun _ _ => rfl)) pa_nil)) (blkOk_by (by rfl)) (fun _ _ _ _ _ => (pg_name (i := 1) sc_table.nd rfl (by first | exact Or.inl rfl | exact Or.inr rfl))) (fun _ _ _ _ _ => pts_nil) (fun _ _ _ _ _ => (pe_callTy (T := "tuple") (tupleK (K := K) rfl) (by rfl) B.tuple (by decide +kernel) (pa_cons (pe_lc (own := [("other", 2)]) (by rfl) sc_table.nd (pi_range1 (by rfl) B.range (pa_cons (pe_ix (ix_tupK (K := K) rfl) (pv 0) pe_int (fun _ _ => rfl)) pa_nil)) (blkOk_by (by rfl)) (fun _ _ _ _ _ => (pg_name (i := 2) sc_table.nd rfl (by first | exact Or.inl rfl | exact Or.inr rfl))) (fun _ _ _ _ _ => pts_nil) (fun _ _ _ _ _ => (pe_c C_lead hr (by decide) (by rfl) (pa_cons (pv 0) (pa_cons (pv 1) (pa_cons (pv 2) pa_nil)))))) pa_nil)))) pa_nil))))), ?_⟩
  have hn := wf.many
  refine sd_ret (ed_tupN (el_lcR0 (n := n) _ (ea_cons (ed_ix (k := 0) (ed_var rfl t0) ed_int rfl) ea_nil) (by omega) (fun _ => rfl) fun i H1 x1 hi => ?_)) k
  refine ed_tupN (el_lcR0 (n := n) _ (ea_cons (ed_ix (k := 0) (ed_var rfl (t0.ex x1)) ed_int rfl) ea_nil) (by omega) (fun _ => rfl) fun j H2 x2 hj => ?_)
  exact ed_call (ea_cons (ed_var rfl (t0.ex (x1.trans x2))) (ea_cons (ed_var rfl (.int _)) (ea_cons (ed_var rfl (.int _)) ea_nil))) ⟨n, bs, i, j, rfl, wf, hi, hj, rfl⟩

-- slots 0:box 1:one 2:other
abbrev s_beats : Stmt := top 4
theorem sc_beats : FnScope ["box", "one", "other"] ["box", "one", "other"] (defScope s_beats) := ⟨rfl, rfl, rfl, by decide +kernel, rfl, by decide +kernel, by decide +kernel⟩
theorem ok_beats (B : Bt mg) (C_lead : Cal P w K mg base 2 "lead" (SpR R_lead) []) (F : DefAt K mg "beats" s_beats ["box", "one", "other"]) : Cal P w K mg base 3 "beats" (SpR R_beats) [] := by
  refine cal_ok F sc_beats (fun vs H Q E h => h.len (n := 3) fun ds d ⟨_, _, _, _, e, _⟩ => by rw [e]; rfl) (fun f cdv A outer s H vs Q E hr h => ?_)
  obtain ⟨ds, d, tv, ⟨n, bs, i, j, rfl, wf, hi, hj, rfl⟩, k⟩ := h
  obtain ⟨v0, v1, v2, rfl, t0, t1, t2⟩ := tv.e3
  refine ⟨_, ((pss_one (ps_ret (pe_cmpR op_gt (pe_c C_lead hr (by decide) (by rfl) (pa_cons (pv 0) (pa_cons (pv 1) (pa_cons (pv 2) pa_nil)))) pe_int (nomark _))))), ?_⟩
  exact sd_ret (ed_B (ed_call (ea_cons (ed_var rfl t0) (ea_cons (ed_var rfl t1) (ea_cons (ed_var rfl t2) ea_nil))) ⟨n, bs, i, j, rfl, wf, hi, hj, rfl⟩) ed_int) k

-- slots 0:_law_script 1:_law_k
abbrev s__law_cell : Stmt := top 6
theorem sc__law_cell : FnScope ["_law_script", "_law_k"] ["_law_script", "_law_k"] (defScope s__law_cell) := ⟨rfl, rfl, rfl, by decide +kernel, rfl, by decide +kernel, by decide +kernel⟩
theorem ok__law_cell (B : Bt mg) (F : DefAt K mg "_law_cell" s__law_cell ["_law_script", "_law_k"]) : Cal P w K mg base 1 "_law_cell" (spCell K) [] := by
  refine cal_ok F sc__law_cell (fun vs H Q E h => ?_) (fun f cdv A outer s H vs Q E hr h => ?_)
  · obtain ⟨a, ns, k, rfl, _⟩ := h
    rfl
  · obtain ⟨a, ns, k, rfl, hS, q⟩ := h
    refine ⟨_, ((pss_cons (ps_if (pt_cmpR op_lt (pv 1) (pe_callB (id := "len") (lenK (K := K) rfl) (by rfl) B.len (by decide +kernel) (pa_cons (pv 0) pa_nil)) (nomark _)) (pss_one (ps_ret (pe_ix (ix_listK (K := K) rfl) (pv 0) (pv 1) (fun _ _ => rfl)))) pss_nil)
      (pss_one (ps_ret pe_int)))), ?_⟩
    refine ⟨_, rfl, _, rfl, a, _, rfl, .inl hS, _, _, rfl, rfl, _, rfl, ?_⟩
    rw [List.length_map]
    refine ite2 (fun h => ?_) (fun h => ?_)
    · have hlt : k < ns.length := by
        have := of_decide_eq_true h
        omega
      refine ⟨_, rfl, _, rfl, a, _, _, .int (ns.getD k 0), rfl, rfl, hS, atI_nat ?_, q⟩
      rw [List.getElem?_map, List.getElem?_eq_getElem hlt]
      simp [hlt]
    · have hge : ns.length ≤ k := by
        have : ¬ ((k : Int) < (ns.length : Int)) := fun z => h (decide_eq_true z)
        omega
      have e : ns.getD k 0 = 0 := by simp [List.getElem?_eq_none hge]
      rw [e] at q
      exact q

-- slots 0:_law_cell_here 1:_law_prime 2:_law_many
abbrev s__law_mix : Stmt := top 7
theorem sc__law_mix : FnScope ["_law_cell_here", "_law_prime", "_law_many"] ["_law_cell_here", "_law_prime", "_law_many"] (defScope s__law_mix) := ⟨rfl, rfl, rfl, by decide +kernel, rfl, by decide +kernel, by decide +kernel⟩
theorem ok__law_mix (B : Bt mg) (F : DefAt K mg "_law_mix" s__law_mix ["_law_cell_here", "_law_prime", "_law_many"]) : Cal P w K mg base 1 "_law_mix" (SpR R_mix) [] := by
  refine cal_ok F sc__law_mix (fun vs H Q E h => h.len (n := 3) fun ds d ⟨_, _, _, e, _⟩ => by rw [e]; rfl) (fun f cdv A outer s H vs Q E hr h => ?_)
  obtain ⟨ds, d, tv, ⟨c, p, m, rfl, hp, hm, rfl⟩, k⟩ := h
  obtain ⟨v0, v1, v2, rfl, t0, t1, t2⟩ := tv.e3
  refine ⟨_, ((pss_one (ps_ret (pe_op op_mod (pe_op op_mod (pe_op op_mul (pv 0) pe_int) (pv 1)) (pv 2))))), ?_⟩
  exact sd_ret (ed_IC (ed_IC (ed_IC (ed_var rfl t0) ed_int (.inr ⟨by decide, by decide⟩)) (ed_var rfl t1) hp) (ed_var rfl t2) hm) k

-- slots 0:_law_cell_here 1:_law_many 2:_law_way 3:_law_places 4:_law_left 5:_law_k
abbrev s__law_ballot : Stmt := top 8
theorem sc__law_ballot : FnScope ["_law_cell_here", "_law_many", "_law_way", "_law_places", "_law_left", "_law_k"] ["_law_cell_here", "_law_many", "_law_way"] (defScope s__law_ballot) := ⟨rfl, rfl, rfl, by decide +kernel, rfl, by decide +kernel, by decide +kernel⟩
theorem ok__law_ballot (B : Bt mg) (C__law_mix : Cal P w K mg base 1 "_law_mix" (SpR R_mix) []) (F : DefAt K mg "_law_ballot" s__law_ballot ["_law_cell_here", "_law_many", "_law_way"]) : Cal P w K mg base 2 "_law_ballot" (SpP pre_ballot post_ballot) [] := by
  refine cal_ok F sc__law_ballot (fun vs H Q E h => h.len (n := 3) fun ds ⟨_, _, _, e, _⟩ => by rw [e]; rfl) (fun f cdv A outer s H vs Q E hr h => ?_)
  obtain ⟨ds, tv, ⟨c, n, wy, rfl, h1, h2, h3⟩, k⟩ := h
  obtain ⟨v0, v1, v2, rfl, t0, t1, t2⟩ := tv.e3
  obtain rfl := t0.intE
  obtain rfl := t1.intE
  obtain rfl := t2.intE
  refine ⟨_, ((pss_cons (ps_setLc (i := 3) (own := [("_law_k", 5)]) (by rfl) sc__law_ballot.nd rfl rfl (sw_true rfl rfl rfl (by decide +kernel)) (pi_range1 (by rfl) B.range (pa_cons (pv 1) pa_nil)) (blkOk_by (by rfl)) (fun _ _ _ _ _ => (pg_name (i := 5) sc__law_ballot.nd rfl (by first | exact Or.inl rfl | exact Or.inr rfl))) (fun _ _ _ _ _ => pts_nil) (fun _ _ _ _ _ => (pe_c C__law_mix hr (by decide) (by rfl) (pa_cons (pe_op op_add (pv 0) (pe_op op_mul pe_int (pv 5))) (pa_cons pe_int (pa_cons (pe_ix (ix_listK (K := K) rfl) (pe_lst (pa_cons (pv 1) (pa_cons pe_int (pa_cons pe_int pa_nil)))) (pv 2) (fun _ _ => rfl)) pa_nil))))))
      (pss_cons (ps_if (PW.pt (pw_and (pt_cmpR op_eq (pv 2) pe_int (nomark _)) (pw_and1 (pt_cmpR op_eq (pe_op op_mod (pv 0) pe_int) pe_int (nomark _))))) (pss_cons (ps_set (i := 4) sc__law_ballot.nd rfl (by first | exact Or.inl rfl | exact Or.inr rfl) (pe_listRg rfl (by rfl) B.list (prg_1 (by rfl) B.range (pv 1))))
      (pss_one (ps_setLc (i := 3) (own := [("_law_k", 5)]) (by rfl) sc__law_ballot.nd rfl rfl (sw_true rfl rfl rfl (by decide +kernel)) (pi_range1 (by rfl) B.range (pa_cons (pv 1) pa_nil)) (blkOk_by (by rfl)) (fun _ _ _ _ _ => (pg_name (i := 5) sc__law_ballot.nd rfl (by first | exact Or.inl rfl | exact Or.inr rfl))) (fun _ _ _ _ _ => pts_nil) (fun _ _ _ _ _ => (pe_bmK (K := K) rfl PySem.F.plainAttrs_list PySem.F.slot_list_pop PySem.F.type_list_pop mt_popAt (pv 4) (pa_cons (pe_c C__law_mix hr (by decide) (by rfl) (pa_cons (pe_op op_add (pv 0) (pe_op op_mul pe_int (pv 5))) (pa_cons pe_int (pa_cons (pe_op op_sub (pv 1) (pv 5)) pa_nil)))) pa_nil)))))) pss_nil)
      (pss_one (ps_ret (pe_callTy (T := "tuple") (tupleK (K := K) rfl) (by rfl) B.tuple (by decide +kernel) (pa_cons (pv 3) pa_nil))))))), ?_⟩
  have hm : ∃ m : Int, 0 < m ∧ m ≤ 100 ∧ [PyData.int (n : Int), .int 2, .int 100][wy]? = some (.int m) := by
    match wy, h3 with
    | 0, _ => exact ⟨n, by omega, by omega, rfl⟩
    | 1, _ => exact ⟨2, by omega, by omega, rfl⟩
    | 2, _ => exact ⟨100, by omega, by omega, rfl⟩
  obtain ⟨m, m0, m1, hm⟩ := hm
  have fin : ∀ (p : Addr) (ys : List Int) (σ' : L2.St) (H' : Hp), σ'[3]? = some (some (.ref p)) → Ex H H' → LAt H' p (ys.map PyData.int) → ys.length = n → Pl ys → tRet (tCB (rTupOf K) (tCons (tVar 3) tNil)) { nx := fun _ H' => Q .non H', rt := Q } σ' H' := by
    intro p ys σ' H' hs ex hp hl hy
    refine sd_ret (ed_tupL (ev_var hs) hp) fun v H1 e1 r => k v _ H1 (ex.trans e1) r ?_
    intro c' n' w' e
    simp only [List.cons.injEq, PyData.int.injEq, and_true] at e
    refine ⟨ys, rfl, ?_, hy⟩
    have := e.2.1
    omega
  refine qd_asgL (ds := ((List.range n).map fun i : Nat => (c + 31 * (i : Int)) * 48271 % 9973 % m).map PyData.int) ?_ fun p H1 hp e1 r => ?_
  · rw [List.map_map]
    refine el_lcR0 (n := n) _ (ea_cons (ed_var rfl (.int _)) ea_nil) (by omega) (fun _ => rfl) fun i H1 x1 hi => ?_
    refine ed_call (ea_cons (ed_I (ed_var rfl (.int _)) (ed_IC ed_int (ed_var rfl (.int _)) (.inl ⟨by decide, by decide⟩))) (ea_cons ed_int (ea_cons (ed_ixN (el_lst (ea_cons (ed_var rfl (.int _)) (ea_cons ed_int (ea_cons ed_int ea_nil))) (by show 3 ≤ 100000; decide)) (ed_var rfl (.int _)) hm) ea_nil))) ⟨_, _, _, rfl, by decide, m0, rfl⟩
  · have done1 : ∀ H2, Ex H1 H2 → tRet (tCB (rTupOf K) (tCons (tVar 3) tNil)) { nx := fun _ H' => Q .non H', rt := Q } ([some (.int c), some (.int n), some (.int wy), some (.ref p), none, none] : L2.St) H2 := fun H2 e2 =>
      fin p _ _ H2 rfl (e1.trans e2) (r.ex e2) (by simp) (fun x hx => by
        obtain ⟨i, _, rfl⟩ := List.mem_map.mp hx
        have a1 := Int.emod_nonneg ((c + 31 * (i : Int)) * 48271 % 9973) (show m ≠ 0 by omega)
        have a2 := Int.emod_lt_of_pos ((c + 31 * (i : Int)) * 48271 % 9973) m0
        constructor <;> omega)
    refine q_when (b := decide ((wy : Int) = 2) && decide (c % 2 = 0)) ?_ (fun hb H2 e2 => ?_) (fun _ H2 e2 => done1 H2 e2)
    · exact et_and (et_d (ed_eqI (ed_var rfl (.int _)) ed_int)) fun _ => et_d (ed_eqI (ed_IC (ed_var rfl (.int _)) ed_int (by decide)) ed_int)
    · -- _law_left = list(range(_law_many))
      refine qd_asgL (el_rg1 (n := n) (ed_var rfl (.int _)) (by omega)) fun l H3 hl e3 hL => ?_
      obtain ⟨lv, hL1, hL2⟩ := hL
      rw [hL2.intsE] at hL1
      unfold tAsg
      refine pop_all (H0 := H) (p := l) (n := n) (ls := (List.range n).map fun i : Nat => (i : Int)) ((e1.trans e2).trans e3) (fresh_back (e1.trans e2) hl) hL1 (by simp) (by omega) (ea_cons (ed_var rfl (.int _)) ea_nil) (by intro _; rfl) (by intro _; rfl) (fun i H' _ hi => ?_) (fun Dl H' out hD ex hout perm => ?_)
      · refine ⟨(c + 7 * (i : Int)) * 48271 % 9967 % ((n : Int) - (i : Int)), Int.emod_nonneg _ (by omega), Int.emod_lt_of_pos _ (by omega), ?_⟩
        exact ed_call (ea_cons (ed_I (ed_var rfl (.int _)) (ed_IC ed_int (ed_var rfl (.int _)) (.inl ⟨by decide, by decide⟩))) (ea_cons ed_int (ea_cons (ed_I (ed_var rfl (.int _)) (ed_var rfl (.int _))) ea_nil))) ⟨_, _, _, rfl, by decide, by omega, rfl⟩
      · refine fin Dl out _ H' rfl ex ⟨_, hout, RpA.ints out⟩ (by rw [perm.length_eq]; simp) (fun x hx => ?_)
        obtain ⟨i, hi, rfl⟩ := List.mem_map.mp (perm.mem_iff.mp hx)
        have := List.mem_range.mp hi
        constructor <;> omega

-- slots 0:_law_script 1:_law_most 2:_law_many 3:_law_size 4:_law_way 5:_law_ballots 6:_law_k 7:_law_cell_here
abbrev s__law_box : Stmt := top 9
theorem sc__law_box : FnScope ["_law_script", "_law_most", "_law_many", "_law_size", "_law_way", "_law_ballots", "_law_k", "_law_cell_here"] ["_law_script", "_law_most"] (defScope s__law_box) := ⟨rfl, rfl, rfl, by decide +kernel, rfl, by decide +kernel, by decide +kernel⟩
theorem ok__law_box (B : Bt mg) (C__law_cell : Cal P w K mg base 1 "_law_cell" (spCell K) []) (C__law_mix : Cal P w K mg base 1 "_law_mix" (SpR R_mix) []) (C__law_ballot : Cal P w K mg base 2 "_law_ballot" (SpP pre_ballot post_ballot) [])
    (F : DefAt K mg "_law_box" s__law_box ["_law_script", "_law_most"]) : Cal P w K mg base 3 "_law_box" (spBox K) [] := by
  refine cal_ok F sc__law_box (fun vs H Q E h => ?_) (fun f cdv A outer s H vs Q E hr h => ?_)
  · obtain ⟨a, ns, most, rfl, _⟩ := h
    rfl
  · obtain ⟨a, ns, most, rfl, hS, m1, m2, k⟩ := h
    refine ⟨_, ((pss_cons (ps_set (i := 2) sc__law_box.nd rfl (by first | exact Or.inl rfl | exact Or.inr rfl) (pe_op op_add pe_int (pe_c C__law_mix hr (by decide) (by rfl) (pa_cons (pe_c C__law_cell hr (by decide) (by rfl) (pa_cons (pv 0) (pa_cons pe_int pa_nil))) (pa_cons pe_int (pa_cons (pv 1) pa_nil))))))
      (pss_cons (ps_set (i := 3) sc__law_box.nd rfl (by first | exact Or.inl rfl | exact Or.inr rfl) (pe_c C__law_mix hr (by decide) (by rfl) (pa_cons (pe_c C__law_cell hr (by decide) (by rfl) (pa_cons (pv 0) (pa_cons pe_int pa_nil))) (pa_cons pe_int (pa_cons pe_int pa_nil)))))
      (pss_cons (ps_set (i := 4) sc__law_box.nd rfl (by first | exact Or.inl rfl | exact Or.inr rfl) (pe_c C__law_mix hr (by decide) (by rfl) (pa_cons (pe_c C__law_cell hr (by decide) (by rfl) (pa_cons (pv 0) (pa_cons pe_int pa_nil))) (pa_cons pe_int (pa_cons pe_int pa_nil)))))
      (pss_cons (ps_set (i := 5) sc__law_box.nd rfl (by first | exact Or.inl rfl | exact Or.inr rfl) (pe_lst pa_nil))
      (pss_cons (ps_for PassesOwn.never rfl (pi_range1 (by rfl) B.range (pa_cons (pv 3) pa_nil)) (pg_name (i := 6) sc__law_box.nd rfl (by first | exact Or.inl rfl | exact Or.inr rfl)) (pss_cons (ps_set (i := 7) sc__law_box.nd rfl (by first | exact Or.inl rfl | exact Or.inr rfl) (pe_c C__law_cell hr (by decide) (by rfl) (pa_cons (pv 0) (pa_cons (pe_op op_add pe_int (pe_op op_mod (pv 6) pe_int)) pa_nil))))
      (pss_cons (ps_expr (pe_bmK (K := K) rfl PySem.F.plainAttrs_list PySem.F.slot_list_append PySem.F.type_list_append mt_append (pv 5) (pa_cons (pe_c C__law_ballot hr (by decide) (by rfl) (pa_cons (pv 7) (pa_cons (pv 2) (pa_cons (pe_callB (id := "min") (call_min2 rfl) (by rfl) B.min (by decide +kernel) (pa_cons (pv 4) (pa_cons pe_int pa_nil))) pa_nil)))) pa_nil)))
      (pss_one (ps_if (pt_cmpR op_eq (pe_op op_mod (pv 7) pe_int) pe_int (nomark _)) (pss_one (ps_expr (pe_bmK (K := K) rfl PySem.F.plainAttrs_list PySem.F.slot_list_append PySem.F.type_list_append mt_append (pv 5) (pa_cons (pe_ix (ix_listK (K := K) rfl) (pv 5) (pe_un un_neg pe_int) (fun _ _ => rfl)) pa_nil)))) pss_nil)))))
      (pss_one (ps_ret (pe_tup (pa_cons (pv 2) (pa_cons (pe_callTy (T := "tuple") (tupleK (K := K) rfl) (by rfl) B.tuple (by decide +kernel) (pa_cons (pv 5) pa_nil)) pa_nil))))))))))), ?_⟩
    have cell : ∀ {σ' : L2.St} {H' : Hp} {te : TE} {i : Nat} {E : XK}, σ'[0]? = some (some (.ref a)) → Ex H H' → ED te σ' H' (.int (i : Int)) → ED (tCall (spCell K) [] E (tCons (tVar 0) (tCons te tNil))) σ' H' (.int (ns.getD i 0)) := by
      intro σ' H' te i E hs ex he H1 x1 Q q
      refine ⟨_, hs, he H1 x1 _ fun v H2 x2 r => ⟨a, ns, i, by rw [r.intE, List.append_nil], ex_l ((ex.trans x1).trans x2) hS, q _ H2 x2 (.int _)⟩⟩
    generalize hn : (1 + ns.getD 0 0 * 48271 % 9949 % (most : Int)).toNat = n
    have hnE : 1 + ns.getD 0 0 * 48271 % 9949 % (most : Int) = (n : Int) := by
      have := Int.emod_nonneg (ns.getD 0 0 * 48271 % 9949) (show (most : Int) ≠ 0 by omega)
      omega
    have hn1 : 1 ≤ n ∧ n ≤ most := by
      have h1 := Int.emod_nonneg (ns.getD 0 0 * 48271 % 9949) (show (most : Int) ≠ 0 by omega)
      have h2 := Int.emod_lt_of_pos (ns.getD 0 0 * 48271 % 9949) (show 0 < (most : Int) by omega)
      omega
    refine qd_asg (d := .int (n : Int)) ((ed_I ed_int (ed_call (ea_cons (cell (i := 0) rfl (Ex.refl H) ed_int) (ea_cons ed_int (ea_cons (ed_var rfl (.int _)) ea_nil))) ⟨_, _, _, rfl, by decide, by omega, rfl⟩)).is (by rw [← hnE])) fun v H1 e1 r => ?_
    obtain rfl := r.intE
    generalize hz : (ns.getD 1 0 * 48271 % 9941 % 14).toNat = z
    have hzE : ns.getD 1 0 * 48271 % 9941 % 14 = (z : Int) := by omega
    have hz1 : z < 14 := by omega
    refine qd_asg (d := .int (z : Int)) ((ed_call (ea_cons (cell (i := 1) rfl e1 ed_int) (ea_cons ed_int (ea_cons ed_int ea_nil))) ⟨_, _, _, rfl, by decide, by decide, rfl⟩).is (by rw [← hzE])) fun v H2 e2 r => ?_
    obtain rfl := r.intE
    generalize hw : (ns.getD 0 0 * 48271 % 9931 % 5).toNat = wy
    have hwE : ns.getD 0 0 * 48271 % 9931 % 5 = (wy : Int) := by omega
    refine qd_asg (d := .int (wy : Int)) ((ed_call (ea_cons (cell (i := 0) rfl (e1.trans e2) ed_int) (ea_cons ed_int (ea_cons ed_int ea_nil))) ⟨_, _, _, rfl, by decide, by decide, rfl⟩).is (by rw [← hwE])) fun v H3 e3 r => ?_
    obtain rfl := r.intE
    have e03 := (e1.trans e2).trans e3
    refine qd_asgL (ds := ([] : List (List Int)).map dB) (el_lst ea_nil (by decide)) fun l H4 hl e4 hL => ?_
    have hl0 : H l = none := fresh_back e03 hl
    -- the loop
    refine qd_forR (n := z) (ea_cons (ed_var rfl (.int _)) ea_nil) (by omega) (fun i σ' H' => ∃ (bs : List (List Int)) (x6 x7 : Option V), σ' = [some (.ref a), some (.int most), some (.int n), some (.int z), some (.int wy), some (.ref l), x6, x7] ∧ Ex H H' ∧ LAt H' l (bs.map dB) ∧ bs.length ≤ 2 * i ∧ ∀ b ∈ bs, b.length = n ∧ Pl b)
      (fun H5 e5 => ⟨[], none, none, rfl, (e03.trans e4).trans e5, hL.ex e5, Nat.zero_le _, fun b hb => nomatch hb⟩) ?_ ?_
    · rintro i σ' H' hi ⟨bs, x6, x7, rfl, ex, hB, hlen, hb⟩
      refine qd_asg (d := .int (ns.getD (2 + i % 14) 0)) (cell (i := 2 + i % 14) rfl ex ((ed_I ed_int (ed_IC (ed_var rfl (.int _)) ed_int (by decide))).is (congrArg PyData.int (by omega)))) fun v H5 e5 r => ?_
      obtain rfl := r.intE
      refine qp_app (ds := bs.map dB) (P := fun d => ∃ b : List Int, d = dB b ∧ b.length = n ∧ Pl b) (hB.ex e5) (ev_var rfl) ?_ (by rw [List.length_map]; omega) fun H6 vs v d e6 hP hL6 t6 => ?_
      · intro H6 x6 Q' q'
        refine ep_call (pre := pre_ballot) (post := post_ballot) (ea_cons (ed_var rfl (.int _)) (ea_cons (ed_var rfl (.int _)) (ea_cons (d := .int (min wy 2 : Nat)) ((ed_2 (ed_var rfl (.int _)) ed_int).is (congrArg PyData.int (by split <;> omega))) ea_nil))) ⟨_, n, min wy 2, rfl, hn1.1, by omega, by omega⟩ H6 x6 Q' fun v d H7 x7 r p => q' v d H7 x7 r (p _ _ _ rfl)
      · obtain ⟨b, rfl, hbl, hbp⟩ := hP
        have ex6 : Ex H (upd H6 l (.lst (vs ++ [v]))) := Ex.mut ((ex.trans e5).trans e6) hl0
        have hL6' : LAt (upd H6 l (.lst (vs ++ [v]))) l ((bs ++ [b]).map dB) := by rw [List.map_append]; exact hL6
        have hb6 : ∀ b' ∈ bs ++ [b], b'.length = n ∧ Pl b' := fun b' hm => by
          rcases List.mem_append.mp hm with h | h
          · exact hb b' h
          · obtain rfl := List.mem_singleton.mp h
            exact ⟨hbl, hbp⟩
        refine s_when (b := decide (ns.getD (2 + i % 14) 0 % 5 = 0)) (et_d (ed_eqI (ed_IC (ed_var rfl (.int _)) ed_int (by decide)) ed_int)) (fun _ H7 e7 => ?_) (fun _ H7 e7 => ?_)
        · refine sd_app (ds := (bs ++ [b]).map dB) (d := dB b) (hL6'.ex e7) (ev_var rfl) ?_ (by rw [List.length_map, List.length_append]; simp; omega) fun H8 vs' v' e8 hL8 t8 => ?_
          · intro H8 x8 Q' q'
            obtain ⟨xs, hx, rs⟩ := (hL6'.ex e7).ex x8
            obtain ⟨y, hy, ry⟩ := rs.get (i := bs.length) (d := dB b) (by simp)
            refine ⟨_, rfl, _, rfl, l, xs, -1, y, rfl, rfl, SqL.of hx, ?_, q' y H8 (Ex.refl _) ry⟩
            have hxl : xs.length = bs.length + 1 := by rw [rs.len]; simp
            unfold atI ixN
            rw [if_neg (by decide), if_pos (by omega)]
            show xs[((-1 : Int) + (xs.length : Int)).toNat]? = some y
            rw [hxl, show ((-1 : Int) + ((bs.length + 1 : Nat) : Int)).toNat = bs.length by omega]
            exact hy
          · refine ⟨bs ++ [b] ++ [b], _, _, rfl, Ex.mut ((ex6.trans e7).trans e8) hl0, by rw [List.map_append]; exact hL8, by simp; omega, fun b' hm => ?_⟩
            rcases List.mem_append.mp hm with h | h
            · exact hb6 b' h
            · obtain rfl := List.mem_singleton.mp h
              exact ⟨hbl, hbp⟩
        · exact ⟨bs ++ [b], _, _, rfl, ex6.trans e7, hL6'.ex e7, by simp; omega, hb6⟩
    · rintro σ' H' ⟨bs, x6, x7, rfl, ex, hB, hlen, hb⟩
      refine sd_ret (ed_tup (ea_cons (ed_var rfl (.int _)) (ea_cons (ed_tupL (ev_var rfl) hB) ea_nil)) (by show 2 ≤ 100000; decide)) fun v H5 e5 r => ?_
      exact k v H5 n bs (ex.trans e5) ⟨hn1.1, hn1.2, by omega, hb⟩ r

-- slots 0:_law_box_here 1:_law_one 2:_law_other 3:_law_found 4:_law_ballot_here
abbrev s__law_lead : Stmt := top 10
theorem sc__law_lead : FnScope ["_law_box_here", "_law_one", "_law_other", "_law_found", "_law_ballot_here"] ["_law_box_here", "_law_one", "_law_other"] (defScope s__law_lead) := ⟨rfl, rfl, rfl, by decide +kernel, rfl, by decide +kernel, by decide +kernel⟩
theorem ok__law_lead (B : Bt mg) (F : DefAt K mg "_law_lead" s__law_lead ["_law_box_here", "_law_one", "_law_other"]) : Cal P w K mg base 1 "_law_lead" (SpR R_lead) [] := by
  refine cal_ok F sc__law_lead (fun vs H Q E h => h.len (n := 3) fun ds d ⟨_, _, _, _, e, _⟩ => by rw [e]; rfl) (fun f cdv A outer s H vs Q E hr h => ?_)
  obtain ⟨ds, d, tv, ⟨n, bs, i, j, rfl, wf, hi, hj, rfl⟩, k⟩ := h
  obtain ⟨v0, v1, v2, rfl, t0, t1, t2⟩ := tv.e3
  obtain rfl := t1.intE
  obtain rfl := t2.intE
  refine ⟨_, ((pss_cons (ps_set (i := 3) sc__law_lead.nd rfl (by first | exact Or.inl rfl | exact Or.inr rfl) pe_int)
      (pss_cons (ps_for PassesOwn.never rfl (pi_tupK (K := K) rfl (pe_ix (ix_tupK (K := K) rfl) (pv 0) pe_int (fun _ _ => rfl))) (pg_name (i := 4) sc__law_lead.nd rfl (by first | exact Or.inl rfl | exact Or.inr rfl)) (pss_cons (ps_if (pt_cmpR op_lt (pe_ix (ix_tupK (K := K) rfl) (pv 4) (pv 1) (fun _ _ => rfl)) (pe_ix (ix_tupK (K := K) rfl) (pv 4) (pv 2) (fun _ _ => rfl)) (nomark _)) (pss_one (ps_set (i := 3) sc__law_lead.nd rfl (by first | exact Or.inl rfl | exact Or.inr rfl) (pe_op op_add (pv 3) pe_int))) pss_nil)
      (pss_one (ps_if (pt_cmpR op_lt (pe_ix (ix_tupK (K := K) rfl) (pv 4) (pv 2) (fun _ _ => rfl)) (pe_ix (ix_tupK (K := K) rfl) (pv 4) (pv 1) (fun _ _ => rfl)) (nomark _)) (pss_one (ps_set (i := 3) sc__law_lead.nd rfl (by first | exact Or.inl rfl | exact Or.inr rfl) (pe_op op_sub (pv 3) pe_int))) pss_nil))))
      (pss_one (ps_ret (pv 3)))))), ?_⟩
  refine qd_asg ed_int fun v H1 e1 r => ?_
  obtain rfl := r.intE
  refine qd_forT (l := bs) (enc := dB) (ed_ix (k := 1) (ed_var rfl (t0.ex e1)) ed_int rfl) (fun H2 m σ' H' => ∃ x4, σ' = [some v0, some (.int i), some (.int j), some (.int ((bs.take m).map fun b => sgnAt b i j).sum), x4] ∧ Ex H2 H')
    (fun H2 _ => ⟨none, rfl, Ex.refl _⟩) (fun H2 m σ' H' h => by obtain ⟨_, _, e⟩ := h; exact Tx.of e) ?_ ?_
  · rintro H2 m x b σ' H' e2 hb rb ⟨x4, rfl, e3⟩
    have hbl := wf.each b (List.mem_of_getElem? hb)
    have hsum : ((bs.take (m + 1)).map fun b => sgnAt b i j).sum = ((bs.take m).map fun b => sgnAt b i j).sum + sgnAt b i j := by
      rw [List.take_add_one, hb]
      simp
    generalize ((bs.take m).map fun b => sgnAt b i j).sum = z at hsum ⊢
    rw [hsum]
    have gi : ∀ {σ'' : L2.St} {H'' : Hp}, Ex H' H'' → σ''[4]? = some (some x) → σ''[1]? = some (some (.int i)) → ED (tOp (rIxT K) (tVar 4) (tVar 1)) σ'' H'' (.int (b.getD i 0)) := fun e h4 h1 => ed_ix (ed_var h4 (rb.ex e)) (ed_var h1 (.int _)) (dB_get (by omega))
    have gj : ∀ {σ'' : L2.St} {H'' : Hp}, Ex H' H'' → σ''[4]? = some (some x) → σ''[2]? = some (some (.int j)) → ED (tOp (rIxT K) (tVar 4) (tVar 2)) σ'' H'' (.int (b.getD j 0)) := fun e h4 h1 => ed_ix (ed_var h4 (rb.ex e)) (ed_var h1 (.int _)) (dB_get (by omega))
    refine q_ifAsg (b := decide (b.getD i 0 < b.getD j 0)) (v := .int (z + (if decide (b.getD i 0 < b.getD j 0) then 1 else 0))) (et_d (ed_B (gi (Ex.refl _) rfl rfl) (gj (Ex.refl _) rfl rfl))) (fun h => ?_) (fun h => ?_) fun H3 e3' => ?_
    · rw [h]
      exact ev_ed (ed_I (ed_var rfl (.int _)) ed_int)
    · rw [h]
      show [_, _, _, some (V.int (z + 0)), _] = _
      rw [Int.add_zero]
      rfl
    · generalize hy : z + (if decide (b.getD i 0 < b.getD j 0) then 1 else 0) = y
      refine s_ifAsg (b := decide (b.getD j 0 < b.getD i 0)) (v := .int (y - (if decide (b.getD j 0 < b.getD i 0) then 1 else 0))) (et_d (ed_B (gj e3' rfl rfl) (gi e3' rfl rfl))) (fun h => ?_) (fun h => ?_) fun H4 e4 => ?_
      · rw [h]
        exact ev_ed (ed_I (ed_var rfl (.int _)) ed_int)
      · rw [h]
        show [_, _, _, some (V.int (y - 0)), _] = _
        rw [Int.sub_zero]
        rfl
      · refine ⟨some x, ?_, (e3.trans e3').trans e4⟩
        have : y - (if decide (b.getD j 0 < b.getD i 0) then 1 else 0) = z + sgnAt b i j := by
          unfold sgnAt sgn
          omega
        rw [this]
        rfl
  · rintro H2 σ' H' e2 ⟨x4, rfl, e3⟩
    rw [List.take_length]
    exact sd_ret (ed_var rfl (.int _)) fun v H3 e4 r => k v H3 (((e1.trans e2).trans e3).trans e4) r

-- slots 0:_law_found
abbrev s__law_whole : Stmt := top 11
theorem sc__law_whole : FnScope ["_law_found"] ["_law_found"] (defScope s__law_whole) := ⟨rfl, rfl, rfl, by decide +kernel, rfl, by decide +kernel, by decide +kernel⟩
theorem ok__law_whole (B : Bt mg) (F : DefAt K mg "_law_whole" s__law_whole ["_law_found"]) : Cal P w K mg base 1 "_law_whole" (SpR R_whole) [] := by
  refine cal_ok F sc__law_whole (fun vs H Q E h => h.len (n := 1) fun ds d ⟨_, e, _⟩ => by rw [e]; rfl) (fun f cdv A outer s H vs Q E hr h => ?_)
  obtain ⟨ds, d, tv, ⟨i, rfl, rfl⟩, k⟩ := h
  obtain ⟨v0, rfl, t0⟩ := tv.e1
  obtain rfl := t0.intE
  refine ⟨_, ((pss_one (ps_ret (pe_and (pe_callB (id := "isinstance") (isiK (K := K) rfl) (by rfl) B.isinstance (by decide +kernel) (pa_cons (pv 0) (pa_cons (pe_bltn (v := .ty "int") (by rfl) B.int (by decide +kernel) rfl) pa_nil))) (pe_one (pe_not (pe_callB (id := "isinstance") (isiK (K := K) rfl) (by rfl) B.isinstance (by decide +kernel) (pa_cons (pv 0) (pa_cons (pe_bltn (v := .ty "bool") (by rfl) B.bool (by decide +kernel) rfl) pa_nil))))))))), ?_⟩
  refine ⟨_, rfl, .int i, .ty "int", _, _, true, rfl, .ty "int", .base (.int i), kit_ty (by decide +kernel), true, rfl, iteT ?_⟩
  refine ⟨_, rfl, .int i, .ty "bool", _, _, false, rfl, .ty "bool", .base (.int i), kit_ty (by decide +kernel), false, rfl, ?_⟩
  exact k _ _ (Ex.refl H) (.bl true)

-- slots 0:_law_script 1:_law_box_here 2:_law_due 3:_law_one 4:_law_found 5:_law_other
abbrev s_law : Stmt := top 12
theorem sc_law : FnScope ["_law_script", "_law_box_here", "_law_due", "_law_one", "_law_found", "_law_other"] ["_law_script"] (defScope s_law) := ⟨rfl, rfl, rfl, by decide +kernel, rfl, by decide +kernel, by decide +kernel⟩
theorem ok_law (B : Bt mg) (C_lead : Cal P w K mg base 2 "lead" (SpR R_lead) []) (C_table : Cal P w K mg base 3 "table" (SpR R_table) []) (C_beats : Cal P w K mg base 3 "beats" (SpR R_beats) [])
    (C__law_box : Cal P w K mg base 3 "_law_box" (spBox K) []) (C__law_lead : Cal P w K mg base 1 "_law_lead" (SpR R_lead) []) (C__law_whole : Cal P w K mg base 1 "_law_whole" (SpR R_whole) [])
    {f : Addr} {fd : FuncData} (F : L2.Fun K "law" "law" s_law f fd) : FnOk P w K mg base L2.CX0 4 f fd ["_law_script"] (spLaw K) := by
  refine F.ok sc_law (fun vs H Q E h => ?_) (fun cdv A outer s H vs Q E hr h => ?_)
  · obtain ⟨a, ns, rfl, _⟩ := h
    rfl
  · obtain ⟨a, ns, rfl, hS, _, _, k⟩ := h
    refine ⟨_, ((pss_cons (ps_set (i := 1) sc_law.nd rfl (by first | exact Or.inl rfl | exact Or.inr rfl) (pe_c C__law_box hr (by decide) (by rfl) (pa_cons (pv 0) (pa_cons pe_int pa_nil))))
      (pss_cons (ps_set (i := 2) sc_law.nd rfl (by first | exact Or.inl rfl | exact Or.inr rfl) (pe_lst pa_nil))
      (pss_cons (ps_for PassesOwn.never rfl (pi_range1 (by rfl) B.range (pa_cons (pe_ix (ix_tupK (K := K) rfl) (pv 1) pe_int (fun _ _ => rfl)) pa_nil)) (pg_name (i := 3) sc_law.nd rfl (by first | exact Or.inl rfl | exact Or.inr rfl)) (pss_cons (ps_expr (pe_bmK (K := K) rfl PySem.F.plainAttrs_list PySem.F.slot_list_append PySem.F.type_list_append mt_append (pv 2) (pa_cons (pe_callTy (T := "tuple") (tupleK (K := K) rfl) (by rfl) B.tuple (by decide +kernel) (pa_cons (pe_lc (own := [("_law_other", 5)]) (by rfl) sc_law.nd (pi_range1 (by rfl) B.range (pa_cons (pe_ix (ix_tupK (K := K) rfl) (pv 1) pe_int (fun _ _ => rfl)) pa_nil)) (blkOk_by (by rfl)) (fun _ _ _ _ _ => (pg_name (i := 5) sc_law.nd rfl (by first | exact Or.inl rfl | exact Or.inr rfl))) (fun _ _ _ _ _ => pts_nil) (fun _ _ _ _ _ => (pe_c C__law_lead hr (by decide) (by rfl) (pa_cons (pv 1) (pa_cons (pv 3) (pa_cons (pv 5) pa_nil)))))) pa_nil)) pa_nil)))
      (pss_one (ps_for PassesOwn.never rfl (pi_range1 (by rfl) B.range (pa_cons (pe_ix (ix_tupK (K := K) rfl) (pv 1) pe_int (fun _ _ => rfl)) pa_nil)) (pg_name (i := 5) sc_law.nd rfl (by first | exact Or.inl rfl | exact Or.inr rfl)) (pss_cons (ps_set (i := 4) sc_law.nd rfl (by first | exact Or.inl rfl | exact Or.inr rfl) (pe_c C_lead hr (by decide) (by rfl) (pa_cons (pv 1) (pa_cons (pv 3) (pa_cons (pv 5) pa_nil)))))
      (pss_cons (ps_if (PW.pt (pw_or (pt_not (pt_val (pe_c C__law_whole hr (by decide) (by rfl) (pa_cons (pv 4) pa_nil)))) (pw_or1 (pt_cmpR op_ne (pv 4) (pe_ix (ix_tupK (K := K) rfl) (pe_ix (ix_listK (K := K) rfl) (pv 2) (pv 3) (fun _ _ => rfl)) (pv 5) (fun _ _ => rfl)) (nomark _))))) (pss_one (ps_ret pe_bl)) pss_nil)
      (pss_one (ps_if (PW.pt (pw_or (pt_not (pt_val (pe_callB (id := "isinstance") (isiK (K := K) rfl) (by rfl) B.isinstance (by decide +kernel) (pa_cons (pe_c C_beats hr (by decide) (by rfl) (pa_cons (pv 1) (pa_cons (pv 3) (pa_cons (pv 5) pa_nil)))) (pa_cons (pe_bltn (v := .ty "bool") (by rfl) B.bool (by decide +kernel) rfl) pa_nil))))) (pw_or1 (pt_cmpR op_ne (pe_c C_beats hr (by decide) (by rfl) (pa_cons (pv 1) (pa_cons (pv 3) (pa_cons (pv 5) pa_nil)))) (pe_cmpR op_gt (pv 4) pe_int (nomark _)) (nomark _))))) (pss_one (ps_ret pe_bl)) pss_nil))))))))
      (pss_cons (ps_set (i := 4) sc_law.nd rfl (by first | exact Or.inl rfl | exact Or.inr rfl) (pe_c C_table hr (by decide) (by rfl) (pa_cons (pv 1) pa_nil)))
      (pss_one (ps_ret (pe_and (pe_callB (id := "isinstance") (isiK (K := K) rfl) (by rfl) B.isinstance (by decide +kernel) (pa_cons (pv 4) (pa_cons (pe_bltn (v := .ty "tuple") (by rfl) B.tuple (by decide +kernel) rfl) pa_nil))) (pe_one (pe_cmpR (eqK (K := K) rfl hr.units) (pv 4) (pe_callTy (T := "tuple") (tupleK (K := K) rfl) (by rfl) B.tuple (by decide +kernel) (pa_cons (pv 2) pa_nil)) (nomark _))))))))))), ?_⟩
    -- the box
    refine ⟨_, rfl, a, ns, 7, rfl, hS, by decide, by decide, fun v H1 n bs e1 bx t1 => ?_⟩
    have wf := bx.wf (by decide)
    have hn : n ≤ 7 := bx.le
    refine qd_asgL (ds := []) (el_lst ea_nil (by decide)) fun p H2 hp e2 hL => ?_
    have many : ∀ {σ' : L2.St} {H' : Hp}, σ'[1]? = some (some v) → Ex H1 H' → ED (tOp (rIxT K) (tVar 1) (tC (.int (0 : Int)))) σ' H' (.int (n : Int)) := fun h e => ed_ix (k := 0) (ed_var h (t1.ex e)) ed_int rfl
    refine qd_forR (n := n) (ea_cons (many rfl e2) ea_nil) (by omega) (fun i σ' H' => ∃ x3 x4 x5, σ' = [some (.ref a), some v, some (.ref p), x3, x4, x5] ∧ Ex H1 H' ∧ LAt H' p ((List.range i).map (dRow n bs)))
      (fun H3 e3 => ⟨none, none, none, rfl, e2.trans e3, hL.ex e3⟩) ?_ ?_
    · rintro i σ' H' hi ⟨x3, x4, x5, rfl, ex, hD⟩
      refine qd_app (d := dRow n bs i) hD (ev_var rfl) ?_ (by rw [List.length_map, List.length_range]; omega) fun H3 vs v3 e3 hD3 _ => ?_
      · refine ed_tupN (el_lcR0 (n := n) _ (ea_cons (many rfl ex) ea_nil) (by omega) (fun _ => rfl) fun j H4 x4 hj => ?_)
        exact ed_call (ea_cons (ed_var rfl (t1.ex (ex.trans x4))) (ea_cons (ed_var rfl (.int _)) (ea_cons (ed_var rfl (.int _)) ea_nil))) ⟨n, bs, i, j, rfl, wf, hi, hj, rfl⟩
      · have ex3 : Ex H1 (upd H3 p (.lst (vs ++ [v3]))) := Ex.mut (ex.trans e3) hp
        have hD4 : LAt (upd H3 p (.lst (vs ++ [v3]))) p ((List.range (i + 1)).map (dRow n bs)) := by
          rw [List.range_succ, List.map_append]
          exact hD3
        generalize upd H3 p (.lst (vs ++ [v3])) = H4 at ex3 hD4 ⊢
        refine sd_forR (n := n) (ea_cons (many rfl ex3) ea_nil) (by omega) (fun j σ' H' => ∃ x4 x5, σ' = [some (.ref a), some v, some (.ref p), some (.int i), x4, x5] ∧ Ex H4 H')
          (fun H5 e5 => ⟨_, _, rfl, e5⟩) ?_ ?_
        · rintro j σ' H' hj ⟨y4, y5, rfl, e4⟩
          have arg : ∀ {σ' : L2.St} {H' : Hp}, σ'[1]? = some (some v) → σ'[3]? = some (some (.int (i : Int))) → σ'[5]? = some (some (.int (j : Int))) → Ex H1 H' → EA (tCons (tVar 1) (tCons (tVar 3) (tCons (tVar 5) tNil))) σ' H' [dBox n bs, .int (i : Int), .int (j : Int)] :=
            fun h1 h3 h5 e => ea_cons (ed_var h1 (t1.ex e)) (ea_cons (ed_var h3 (.int _)) (ea_cons (ed_var h5 (.int _)) ea_nil))
          refine qd_asg (d := .int (lead bs i j)) (ed_call (arg rfl rfl rfl (ex3.trans e4)) ⟨n, bs, i, j, rfl, wf, hi, hj, rfl⟩) fun v4 H5 e5 r => ?_
          obtain rfl := r.intE
          have e45 := e4.trans e5
          refine q_when (b := !true || !decide (lead bs i j = lead bs i j)) (et_or (et_not (et_dB (ed_call (ea_cons (ed_var rfl (.int _)) ea_nil) ⟨_, rfl, rfl⟩))) fun _ => et_d (ed_neI (ed_var rfl (.int _)) (ed_ix (k := j) (d := .int (lead bs i j)) (ds := (List.range n).map fun j => .int (lead bs i j)) (ed_ixL (k := i) (ev_var rfl) (hD4.ex e45) (ed_var rfl (.int _)) (d := dRow n bs i) (by simp)) (ed_var rfl (.int _)) (by simp [hj])))) (fun h => by simp at h) fun _ H6 e6 => ?_
          have bt : ∀ {σ' : L2.St} {H' : Hp} {E : XK}, σ'[1]? = some (some v) → σ'[3]? = some (some (.int (i : Int))) → σ'[5]? = some (some (.int (j : Int))) → Ex H1 H' → ED (tCall (SpR R_beats) [] E (tCons (tVar 1) (tCons (tVar 3) (tCons (tVar 5) tNil)))) σ' H' (.bool (decide (0 < lead bs i j))) :=
            fun h1 h3 h5 e => ed_call (arg h1 h3 h5 e) ⟨n, bs, i, j, rfl, wf, hi, hj, rfl⟩
          refine s_when (b := !true || !decide (decide (0 < lead bs i j) = decide (0 < lead bs i j))) (et_or (et_not (et_dB (ed_isi (bt rfl rfl rfl ((ex3.trans e45).trans e6)) (show kitB "bool" "bool" = some true by decide +kernel)))) fun _ => et_d (ed_neB (bt rfl rfl rfl ((ex3.trans e45).trans e6)) (ed_B (ed_var rfl (.int _)) ed_int))) (fun h => by simp at h) fun _ H7 e7 => ?_
          exact ⟨_, _, rfl, (e45.trans e6).trans e7⟩
        · rintro σ' H' ⟨y4, y5, rfl, e4⟩
          exact ⟨_, _, _, rfl, ex3.trans e4, hD4.ex e4⟩
    · rintro σ' H' ⟨x3, x4, x5, rfl, ex, hD⟩
      refine qd_asg (d := dTab n bs) (ed_call (ea_cons (ed_var rfl (t1.ex ex)) ea_nil) ⟨n, bs, rfl, wf, rfl⟩) fun v4 H3 e3 r => ?_
      have sh := sh_dTab n bs
      refine sd_ret (ed_andV (a := true) (b := PyData.eqv (dTab n bs) (dTab n bs)) (ed_isi (ed_var rfl r) (show kitB "tuple" "tuple" = some true by decide +kernel)) fun _ => ed_eqD (ed_var rfl r) (ed_tupL (ev_var rfl) (hD.ex e3)) sh.ok sh.ok) fun v5 H4 e4 r5 => ?_
      have e := r5.blE
      rw [sh.refl] at e
      rw [e]
      exact k H4
end
end Wl
namespace Wl
open PySem L2 Wd Wm Evl C8
theorem walk {l : PySem.W.OpenLaw} {q : Program} {loose : List Str} {XP : (Str → Option Value) → Heap → Prop} {YP : World → Heap → Prop} {d : DefRec} {K : Params → PySem.W.Frag} (hn : l.most = some 63) (hdf : d.params.defaults = [])
    (hY : ∀ (w : World) (h : Heap), YP w h → (K w.params).In h)
    (F : ∀ (w : World) (mg : Str → Option Value) (fa : Addr) (h : Heap), (K w.params).In h → h.Ns mainGlobals mg → mg d.name = some (.ref fa) →
      ∃ fd : FuncData, (∀ (s : Shared) (u : Value), BindsTo s fd ⟨[u], []⟩ [("_law_script", u)]) ∧ ∀ base : Heap, (K w.params).In base → base.Ns mainGlobals mg → FnOk l.prog w (K w.params) mg base L2.CX0 4 fa fd ["_law_script"] (spLaw (K w.params))) :
    PySem.W.WalkO q loose XP YP l.row.toRowW d [] (fun f vs => PySem.call f vs) :=
  L2.walk_ofB (n := 63) (k := 4) (x := "_law_script") (CX := fun _ => L2.CX0) (sp := fun w => spLaw (K w.params)) hn (by decide) hdf ⟨rfl, by decide, by decide⟩ hY F (fun _ _ a ns hl hb _ hS => ⟨a, ns, rfl, hS, hl, hb, fun _ => rfl⟩) fun _ _ _ _ _ z => z
theorem law_mk {l : PySem.W.OpenLaw} {w : World} {K : PySem.W.Frag} {mg : Str → Option Value} {fa : Addr} (hfa : mg "law" = some (.ref fa)) (B : Bt mg)
    (D_sign : DefAt K mg "sign" s_sign ["ballot", "one", "other"])
    (D_lead : DefAt K mg "lead" s_lead ["box", "one", "other"])
    (D_table : DefAt K mg "table" s_table ["box"])
    (D_beats : DefAt K mg "beats" s_beats ["box", "one", "other"])
    (D__law_cell : DefAt K mg "_law_cell" s__law_cell ["_law_script", "_law_k"])
    (D__law_mix : DefAt K mg "_law_mix" s__law_mix ["_law_cell_here", "_law_prime", "_law_many"])
    (D__law_ballot : DefAt K mg "_law_ballot" s__law_ballot ["_law_cell_here", "_law_many", "_law_way"])
    (D__law_box : DefAt K mg "_law_box" s__law_box ["_law_script", "_law_most"])
    (D__law_lead : DefAt K mg "_law_lead" s__law_lead ["_law_box_here", "_law_one", "_law_other"])
    (D__law_whole : DefAt K mg "_law_whole" s__law_whole ["_law_found"])
    (D_law : DefAt K mg "law" s_law ["_law_script"])
    (bl : ∀ f fd, L2.Fun K "law" "law" s_law f fd → ∀ (s : Shared) (v : Value), BindsTo s fd ⟨[v], []⟩ [("_law_script", v)]) :
    ∃ fd : FuncData, (∀ (s : Shared) (v : Value), BindsTo s fd ⟨[v], []⟩ [("_law_script", v)]) ∧ ∀ base : Heap, K.In base → base.Ns mainGlobals mg → FnOk l.prog w K mg base L2.CX0 4 fa fd ["_law_script"] (spLaw K) := by
  obtain ⟨f, fd, G, hm, b⟩ := D_law.ex
  have e : fa = f := by
    have := hfa.symm.trans hm
    cases this
    rfl
  subst e
  refine ⟨fd, bl _ _ G, fun base _ _ => ?_⟩
  have C_sign := ok_sign (P := l.prog) (w := w) (base := base) B  D_sign
  have C_lead := ok_lead (P := l.prog) (w := w) (base := base) B C_sign D_lead
  have C_table := ok_table (P := l.prog) (w := w) (base := base) B C_lead D_table
  have C_beats := ok_beats (P := l.prog) (w := w) (base := base) B C_lead D_beats
  have C__law_cell := ok__law_cell (P := l.prog) (w := w) (base := base) B  D__law_cell
  have C__law_mix := ok__law_mix (P := l.prog) (w := w) (base := base) B  D__law_mix
  have C__law_ballot := ok__law_ballot (P := l.prog) (w := w) (base := base) B C__law_mix D__law_ballot
  have C__law_box := ok__law_box (P := l.prog) (w := w) (base := base) B C__law_cell C__law_mix C__law_ballot D__law_box
  have C__law_lead := ok__law_lead (P := l.prog) (w := w) (base := base) B  D__law_lead
  have C__law_whole := ok__law_whole (P := l.prog) (w := w) (base := base) B  D__law_whole
  exact ok_law (P := l.prog) (w := w) (base := base) B C_lead C_table C_beats C__law_box C__law_lead C__law_whole G
end Wl
open PySem PySem.W PyProof.Rows in
set_option maxRecDepth 100000 in
set_option maxHeartbeats 0 in
theorem PySem.Challenge.cw_wishcount_k02_leads_holds : PySem.Challenge.rw_wishcount_k02_leads.Holds := by
  w_on; o_law; k_head; (case hw => w_witness2)
  k_fill
  refine Wl.walk (l := PySem.Challenge.rw_wishcount_k02_leads) rfl rfl (fun w h Y => PySem.W.kIn_of Y) ?F
  case F =>
    intro w mg fa h KX G hmg
    have B : Wd.Bt mg := Wd.bt_mk KX G (by k_is) (by k_is) (by k_is) (by k_is) (by k_is) (by k_is) (by k_is) (by k_is) (by k_is) (by k_is) (by k_is) (by k_is) (by k_is) (by k_is)
    have D_sign := Wd.def_mk (x := "sign") (st := Wl.s_sign) (ps := ["ballot", "one", "other"]) KX G (by k_is) (by k_is) (by k_is) (by k_is) (fun _ _ _ _ _ _ us hl => match us, hl with | [_, _, _], _ => rfl)
    have D_lead := Wd.def_mk (x := "lead") (st := Wl.s_lead) (ps := ["box", "one", "other"]) KX G (by k_is) (by k_is) (by k_is) (by k_is) (fun _ _ _ _ _ _ us hl => match us, hl with | [_, _, _], _ => rfl)
    have D_table := Wd.def_mk (x := "table") (st := Wl.s_table) (ps := ["box"]) KX G (by k_is) (by k_is) (by k_is) (by k_is) (fun _ _ _ _ _ _ us hl => match us, hl with | [_], _ => rfl)
    have D_beats := Wd.def_mk (x := "beats") (st := Wl.s_beats) (ps := ["box", "one", "other"]) KX G (by k_is) (by k_is) (by k_is) (by k_is) (fun _ _ _ _ _ _ us hl => match us, hl with | [_, _, _], _ => rfl)
    have D__law_cell := Wd.def_mk (x := "_law_cell") (st := Wl.s__law_cell) (ps := ["_law_script", "_law_k"]) KX G (by k_is) (by k_is) (by k_is) (by k_is) (fun _ _ _ _ _ _ us hl => match us, hl with | [_, _], _ => rfl)
    have D__law_mix := Wd.def_mk (x := "_law_mix") (st := Wl.s__law_mix) (ps := ["_law_cell_here", "_law_prime", "_law_many"]) KX G (by k_is) (by k_is) (by k_is) (by k_is) (fun _ _ _ _ _ _ us hl => match us, hl with | [_, _, _], _ => rfl)
    have D__law_ballot := Wd.def_mk (x := "_law_ballot") (st := Wl.s__law_ballot) (ps := ["_law_cell_here", "_law_many", "_law_way"]) KX G (by k_is) (by k_is) (by k_is) (by k_is) (fun _ _ _ _ _ _ us hl => match us, hl with | [_, _, _], _ => rfl)
    have D__law_box := Wd.def_mk (x := "_law_box") (st := Wl.s__law_box) (ps := ["_law_script", "_law_most"]) KX G (by k_is) (by k_is) (by k_is) (by k_is) (fun _ _ _ _ _ _ us hl => match us, hl with | [_, _], _ => rfl)
    have D__law_lead := Wd.def_mk (x := "_law_lead") (st := Wl.s__law_lead) (ps := ["_law_box_here", "_law_one", "_law_other"]) KX G (by k_is) (by k_is) (by k_is) (by k_is) (fun _ _ _ _ _ _ us hl => match us, hl with | [_, _, _], _ => rfl)
    have D__law_whole := Wd.def_mk (x := "_law_whole") (st := Wl.s__law_whole) (ps := ["_law_found"]) KX G (by k_is) (by k_is) (by k_is) (by k_is) (fun _ _ _ _ _ _ us hl => match us, hl with | [_], _ => rfl)
    have D_law := Wd.def_mk (x := "law") (st := Wl.s_law) (ps := ["_law_script"]) KX G (by k_is) (by k_is) (by k_is) (by k_is) (fun _ _ _ _ _ _ us hl => match us, hl with | [_], _ => rfl)
    exact Wl.law_mk hmg B D_sign D_lead D_table D_beats D__law_cell D__law_mix D__law_ballot D__law_box D__law_lead D__law_whole D_law (fun f fd G s v => by obtain ⟨oc, od, kV, doc, pm, an, cdv, ct, osl, rfl, _, _⟩ := G.ex; exact .of_eq rfl)
