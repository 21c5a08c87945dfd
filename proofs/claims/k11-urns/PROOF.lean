import PyProof.Rows.All
import Wide.All
import OpenK.AllK
import Wide.FinOn
import HandS.ForMost
import HandS.EndTab
import HandS.Conv
import HandS.Deep
import HandS.IsInst
import HandS.TupAny
import HandS.Wide
import HandS.Codes
import HandS.EndBits
import PyProof.Draws
import PyProof.EnumMake
import PyProof.TupleIter
import HandS.Walk
import HandS.Flow
import HandS.SortRule
import HandS.SortInts
import HandS.SetFor
import HandS.Strs
import HandS.Sort
import PyProof.SeqIndex
import HandS.Style
import HandS.WordsExc
import HandS.ExcIs
import HandS.TupMul
import HandS.TupSets
import HandS.DictTup
import KE.DataFind
import PySem.Challenge.RW_wishcount_k11_whole_urns
set_option Elab.async false
set_option linter.all false
set_option maxRecDepth 100000
set_option maxHeartbeats 8000000
/-! What stands in the heap as data that never changes (tuples of tuples .. of ints), and what evaluates to such. -/
namespace Wd
open PySem PySem.Spec PyProof.Rows L2

mutual
inductive Rp (H : Hp) : V → PyData → Prop
  | non : Rp H .non .none
  | bl (b : Bool) : Rp H (.bl b) (.bool b)
  | int (i : Int) : Rp H (.int i) (.int i)
  | str (x : Str) : Rp H (.str x) (.str x)
  | tup {a : Addr} {xs : List V} {ds : List PyData} : Rd H a (.tup xs) → RpA H xs ds → Rp H (.ref a) (.tuple ds)
inductive RpA (H : Hp) : List V → List PyData → Prop
  | nil : RpA H [] []
  | cons {v : V} {vs : List V} {d : PyData} {ds : List PyData} : Rp H v d → RpA H vs ds → RpA H (v :: vs) (d :: ds)
end

/-- the tables of code objects that lambdas are entered in, and the lambdas' names -/
class Tbl where
  T : List (Addr × Str)
def NoB : HO → Prop
  | .tbl _ => False
  | _ => True
def NoX : HO → Prop
  | .tbl _ => False
  | .ext _ => False
  | _ => True
theorem NoB.of {o : HO} (h : NoB o) (ps : Array Value) : o ≠ .tbl ps := fun z => by
  subst z
  exact h
theorem noB_of {o : HO} (h : ∀ ps, o ≠ .tbl ps) : NoB o := by
  cases o <;> first | exact True.intro | exact (h _ rfl).elim
/-- nothing but a table may be known there -/
def Nw (H : Hp) (p : Addr) : Prop := ∀ o, H p = some o → ¬ NoB o
theorem Nw.of {H : Hp} {p : Addr} (h : H p = none) : Nw H p := fun o k => by
  rw [h] at k
  cases k
theorem Nw.ne {H : Hp} {p a : Addr} {u : HO} (h : Nw H p) (k : H a = some u) (m : NoB u := by exact True.intro) : a ≠ p := fun z => h u (z ▸ k) m
/-- all that is known stays, but the tables, which grow as they should -/
structure Ex [Tbl] (H H' : Hp) : Prop where
  keep : ∀ a o, H a = some o → NoB o → H' a = some o
  tabs : LamX.Tabs Tbl.T H → LamX.Tabs Tbl.T H'
section
variable [Tbl]
theorem Ex.at {H H' : Hp} {a : Addr} {o : HO} (e : Ex H H') (h : H a = some o) (n : NoB o := by exact True.intro) : H' a = some o := e.keep a o h n
theorem Ex.refl (H : Hp) : Ex H H := ⟨fun _ _ k _ => k, fun t => t⟩
theorem Ex.trans {H H1 H2 : Hp} (a : Ex H H1) (b : Ex H1 H2) : Ex H H2 := ⟨fun x o k n => b.keep x o (a.keep x o k n) n, fun t => b.tabs (a.tabs t)⟩
theorem tabs_same {H H' : Hp} (h : ∀ a o, H a = some o → H' a = some o) (t : LamX.Tabs Tbl.T H) : LamX.Tabs Tbl.T H' := t.ext h
theorem Ex.same {H H' : Hp} (h : ∀ a o, H a = some o → H' a = some o) : Ex H H' := ⟨fun a o k _ => h a o k, tabs_same h⟩
theorem Ex.new {H : Hp} {p : Addr} {o : HO} (h : H p = none) : Ex H (upd H p o) := Ex.same fun a u k => by
  rw [upd_ne (ne_of_none k h)]
  exact k
/-- a thing that H does not know may change -/
theorem Ex.mut {H H' : Hp} {p : Addr} {o o1 : HO} (e : Ex H H') (h : Nw H p) (h1 : H' p = some o1) (n : NoX o1 := by exact True.intro) : Ex H (upd H' p o) := by
  refine ⟨fun a u k m => ?_, fun t q hq => ?_⟩
  · rw [upd_ne (h.ne k m)]
    exact e.keep a u k m
  · obtain ⟨ps, a1, a2, a3⟩ := e.tabs t q hq
    have n1 : q.1 ≠ p := fun z => by
      rw [z, h1] at a1
      cases a1
      exact n
    refine ⟨ps, by rw [upd_ne n1]; exact a1, a2, fun pos cv hc => ?_⟩
    obtain ⟨c, rfl, b⟩ := a3 pos cv hc
    have n2 : c ≠ p := fun z => by
      rw [z, h1] at b
      cases b
      exact n
    exact ⟨c, rfl, by rw [upd_ne n2]; exact b⟩
theorem Ex.rd {H H' : Hp} {a : Addr} {u : HO} (e : Ex H H') (h : Rd H a u) (n : NoB u := by exact True.intro) : Rd H' a u := by
  rcases h with k | ⟨o, k⟩
  · exact .inl (e.at k n)
  · exact .inr ⟨o, e.at k⟩
theorem ex_l {K : PySem.W.Frag} {H H' : Hp} {a : Addr} {xs : List V} (e : Ex H H') : SqL K H a xs → SqL K H' a xs := Or.imp_left fun k => e.rd k
theorem ex_t {K : PySem.W.Frag} {H H' : Hp} {a : Addr} {xs : List V} (e : Ex H H') : SqT K H a xs → SqT K H' a xs := Or.imp_left fun k => e.rd k
/-- new behind is new ahead -/
theorem Ex.back {H H' : Hp} {p : Addr} (e : Ex H H') (h : Nw H' p) : Nw H p := fun o k n => h o (e.keep p o k n) n
theorem fresh_back {H H' : Hp} {p : Addr} (e : Ex H H') (h : Nw H' p) : Nw H p := e.back h

/-! ### what evaluates to a value told, a test to an answer -/
def Ev (te : TE) (σ : L2.St) (H : Hp) (v : V) : Prop := ∀ G, Ex H G → ∀ Q : VK, (∀ G2, Ex G G2 → Q v G2) → te σ G Q
def EvT (tt : TT) (σ : L2.St) (H : Hp) (b : Bool) : Prop := ∀ G, Ex H G → ∀ Q : Bool → Hp → Prop, (∀ G2, Ex G G2 → Q b G2) → tt σ G Q
variable {σ : L2.St} {H H' : Hp} {te ta tb : TE} {t u : TT} {v : V} {a b : Bool} {D : Ends} {tu tw tz : TS}
theorem Ev.mono (e : Ex H H') (h : Ev te σ H v) : Ev te σ H' v := fun G x => h G (e.trans x)
theorem EvT.mono (e : Ex H H') (h : EvT t σ H b) : EvT t σ H' b := fun G x => h G (e.trans x)
theorem ev_var {i : Nat} (h : σ[i]? = some (some v)) : Ev (tVar i) σ H v := fun G _ _ k => ⟨v, h, k G (.refl G)⟩
theorem et_and (h1 : EvT t σ H a) (h2 : a = true → EvT u σ H b) : EvT (tAnd t u) σ H (a && b) := by
  intro G x Q k
  refine h1 G x _ fun G2 x2 => ?_
  cases a
  · exact iteF (k G2 x2)
  · exact iteT (h2 rfl G2 (x.trans x2) Q fun G3 x3 => k G3 (x2.trans x3))
theorem et_or (h1 : EvT t σ H a) (h2 : a = false → EvT u σ H b) : EvT (tOr t u) σ H (a || b) := by
  intro G x Q k
  refine h1 G x _ fun G2 x2 => ?_
  cases a
  · exact iteF (h2 rfl G2 (x.trans x2) Q fun G3 x3 => k G3 (x2.trans x3))
  · exact iteT (k G2 x2)
theorem et_not (h : EvT t σ H a) : EvT (tNot t) σ H (!a) := fun G x _ k => h G x _ fun G2 x2 => k G2 x2
/-- if t: u else: w -/
theorem s_if (h : EvT t σ H b) (h1 : b = true → ∀ G, Ex H G → tu D σ G) (h2 : b = false → ∀ G, Ex H G → tw D σ G) : tIfS t tu tw D σ H := by
  refine h H (.refl H) _ fun G x => ?_
  cases b
  · exact iteF (h2 rfl G x)
  · exact iteT (h1 rfl G x)
theorem s_when (h : EvT t σ H b) (h1 : b = true → ∀ G, Ex H G → tu D σ G) (h2 : b = false → ∀ G, Ex H G → D.nx σ G) : tIfS t tu tNext D σ H := s_if h h1 h2
theorem q_if (h : EvT t σ H b) (h1 : b = true → ∀ G, Ex H G → tu { D with nx := tz D } σ G) (h2 : b = false → ∀ G, Ex H G → tw { D with nx := tz D } σ G) : tSeq (tIfS t tu tw) tz D σ H := s_if (D := { D with nx := tz D }) h h1 h2
theorem q_when (h : EvT t σ H b) (h1 : b = true → ∀ G, Ex H G → tu { D with nx := tz D } σ G) (h2 : b = false → ∀ G, Ex H G → tz D σ G) : tSeq (tIfS t tu tNext) tz D σ H := s_if (D := { D with nx := tz D }) h h1 h2
/-- if t: x = e, the value behind it told of both ways -/
theorem s_ifAsg {i : Nat} (h : EvT t σ H b) (h1 : b = true → Ev te σ H v) (h2 : b = false → σ.set i (some v) = σ) (k : ∀ G, Ex H G → D.nx (σ.set i (some v)) G) : tIfS t (tAsg te (gName i)) tNext D σ H := by
  refine s_when h (fun hb G x => ?_) (fun hb G x => ?_)
  · exact h1 hb G x _ fun G2 x2 => k G2 (x.trans x2)
  · have := k G x
    rwa [h2 hb] at this
theorem q_ifAsg {i : Nat} (h : EvT t σ H b) (h1 : b = true → Ev te σ H v) (h2 : b = false → σ.set i (some v) = σ) (k : ∀ G, Ex H G → tz D (σ.set i (some v)) G) : tSeq (tIfS t (tAsg te (gName i)) tNext) tz D σ H := s_ifAsg (D := { D with nx := tz D }) h h1 h2 k
end
theorem sz_of {n : Nat} (h : n ≤ 100000) : n ≤ sizeLine := by rw [sizeLine_eq]; omega
theorem sz_lt {n : Nat} (h : n < 100000) : n < sizeLine := by rw [sizeLine_eq]; omega

/-- tuples stay -/
def Tx (H H' : Hp) : Prop := ∀ a xs, Rd H a (.tup xs) → Rd H' a (.tup xs)
theorem SqR {K : PySem.W.Frag} {H : Hp} {a : Addr} {xs : List V} (h : Rd H a (.tup xs)) : SqT K H a xs := .inl h
theorem Tx.refl (H : Hp) : Tx H H := fun _ _ h => h
theorem Tx.trans {H H1 H2 : Hp} (a : Tx H H1) (b : Tx H1 H2) : Tx H H2 := fun x o h => b x o (a x o h)
theorem Tx.of [Tbl] {H H' : Hp} (e : Ex H H') : Tx H H' := fun a xs h => e.rd h
def NoT : HO → Prop
  | .tup _ => False
  | .frz _ u => NoT u
  | _ => True
theorem Tx.upd {H : Hp} {p : Addr} {o o' : HO} (h : H p = some o) (n : NoT o) : Tx H (upd H p o') := fun a xs e => by
  have ha : a ≠ p := fun ha => by
    subst ha
    rcases e with e | ⟨ob, e⟩
    · rw [h] at e
      cases e
      exact n.elim
    · rw [h] at e
      cases e
      exact n.elim
  rcases e with e | ⟨ob, e⟩
  · exact .inl (by rw [upd_ne ha]; exact e)
  · exact .inr ⟨ob, by rw [upd_ne ha]; exact e⟩
theorem Tx.new {H : Hp} {p : Addr} {o : HO} (h : H p = none) : Tx H (L2.upd H p o) := fun a xs k => by
  rcases k with k | ⟨ob, k⟩
  · exact .inl (by rw [upd_ne (ne_of_none k h)]; exact k)
  · exact .inr ⟨ob, by rw [upd_ne (ne_of_none k h)]; exact k⟩

mutual
theorem Rp.tx {H H' : Hp} (e : Tx H H') : ∀ (d : PyData) (v : V), Rp H v d → Rp H' v d
  | .none, _, h => by cases h; exact .non
  | .bool b, _, h => by cases h; exact .bl b
  | .int i, _, h => by cases h; exact .int i
  | .str x, _, h => by cases h; exact .str x
  | .tuple ds, _, h => by
    cases h with
    | tup h1 h2 => exact .tup (e _ _ h1) (RpA.tx e ds _ h2)
  | .list ds, _, h => by cases h
  | .dict ds, _, h => by cases h
theorem RpA.tx {H H' : Hp} (e : Tx H H') : ∀ (ds : List PyData) (vs : List V), RpA H vs ds → RpA H' vs ds
  | [], _, h => by cases h; exact .nil
  | d :: ds, _, h => by
    cases h with
    | cons h1 h2 => exact .cons (Rp.tx e d _ h1) (RpA.tx e ds _ h2)
end
theorem Rp.up {H H' : Hp} {d : PyData} {v : V} (h : Rp H v d) (e : Tx H H') : Rp H' v d := Rp.tx e d v h
theorem RpA.up {H H' : Hp} {ds : List PyData} {vs : List V} (h : RpA H vs ds) (e : Tx H H') : RpA H' vs ds := RpA.tx e ds vs h
theorem Rp.ex [Tbl] {H H' : Hp} {d : PyData} {v : V} (h : Rp H v d) (e : Ex H H') : Rp H' v d := h.up (.of e)
theorem RpA.ex [Tbl] {H H' : Hp} {ds : List PyData} {vs : List V} (h : RpA H vs ds) (e : Ex H H') : RpA H' vs ds := h.up (.of e)

mutual
theorem Rp.dp {K : PySem.W.Frag} {H : Hp} : ∀ (d : PyData) (v : V), Rp H v d → Dp K H v d
  | .none, _, h => by cases h; exact .non
  | .bool b, _, h => by cases h; exact .bl b
  | .int i, _, h => by cases h; exact .int i
  | .str x, _, h => by cases h; exact .str x
  | .tuple ds, _, h => by
    cases h with
    | tup h1 h2 => exact .tup (SqR h1) (RpA.dp ds _ h2)
  | .list ds, _, h => by cases h
  | .dict ds, _, h => by cases h
theorem RpA.dp {K : PySem.W.Frag} {H : Hp} : ∀ (ds : List PyData) (vs : List V), RpA H vs ds → DpAll K H vs ds
  | [], _, h => by cases h; exact .nil
  | d :: ds, _, h => by
    cases h with
    | cons h1 h2 => exact .cons (Rp.dp d _ h1) (RpA.dp ds _ h2)
end

theorem RpA.len {H : Hp} : ∀ {ds : List PyData} {vs : List V}, RpA H vs ds → vs.length = ds.length
  | [], _, h => by cases h; rfl
  | d :: ds, _, h => by
    cases h with
    | cons h1 h2 => simp [RpA.len h2]
theorem RpA.get {H : Hp} : ∀ {ds : List PyData} {vs : List V} {i : Nat} {d : PyData}, RpA H vs ds → ds[i]? = some d → ∃ v, vs[i]? = some v ∧ Rp H v d
  | [], _, _, _, _, e => by simp at e
  | d :: ds, _, i, d', h, e => by
    cases h with
    | cons h1 h2 =>
      cases i with
      | zero => simp at e; subst e; exact ⟨_, rfl, h1⟩
      | succ i => exact RpA.get (i := i) h2 (by simpa using e)
theorem RpA.getV {H : Hp} : ∀ {ds : List PyData} {vs : List V} {i : Nat} {v : V}, RpA H vs ds → vs[i]? = some v → ∃ d, ds[i]? = some d ∧ Rp H v d
  | [], _, _, _, h, e => by cases h; simp at e
  | d :: ds, _, i, v, h, e => by
    cases h with
    | cons h1 h2 =>
      cases i with
      | zero => simp at e; subst e; exact ⟨_, rfl, h1⟩
      | succ i => exact RpA.getV (i := i) h2 (by simpa using e)
theorem RpA.append {H : Hp} : ∀ {ds es : List PyData} {vs ws : List V}, RpA H vs ds → RpA H ws es → RpA H (vs ++ ws) (ds ++ es)
  | [], _, _, _, h, k => by cases h; exact k
  | d :: ds, _, _, _, h, k => by
    cases h with
    | cons h1 h2 => exact .cons h1 (RpA.append h2 k)
theorem RpA.take {H : Hp} : ∀ {ds : List PyData} {vs : List V} (n : Nat), RpA H vs ds → RpA H (vs.take n) (ds.take n)
  | [], _, _, h => by cases h; simp; exact .nil
  | d :: ds, _, 0, h => by simp; exact .nil
  | d :: ds, _, n + 1, h => by
    cases h with
    | cons h1 h2 => exact .cons h1 (RpA.take n h2)
theorem RpA.drop {H : Hp} : ∀ {ds : List PyData} {vs : List V} (n : Nat), RpA H vs ds → RpA H (vs.drop n) (ds.drop n)
  | [], _, _, h => by cases h; simp; exact .nil
  | d :: ds, _, 0, h => h
  | d :: ds, _, n + 1, h => by
    cases h with
    | cons h1 h2 => exact RpA.drop n h2
theorem RpA.one {H : Hp} {v : V} {d : PyData} (h : Rp H v d) : RpA H [v] [d] := .cons h .nil
theorem RpA.set {H : Hp} {v : V} {d : PyData} (h : Rp H v d) : ∀ {ds : List PyData} {vs : List V} (i : Nat), RpA H vs ds → RpA H (vs.set i v) (ds.set i d)
  | [], _, _, k => by cases k; exact .nil
  | _ :: _, _, 0, k => by
    cases k with
    | cons h1 h2 => exact .cons h h2
  | _ :: _, _, i + 1, k => by
    cases k with
    | cons h1 h2 => exact .cons h1 (RpA.set h i h2)
theorem RpA.erase {H : Hp} : ∀ {ds : List PyData} {vs : List V} (i : Nat), RpA H vs ds → RpA H (vs.eraseIdx i) (ds.eraseIdx i)
  | [], _, _, k => by cases k; exact .nil
  | _ :: _, _, 0, k => by
    cases k with
    | cons h1 h2 => exact h2
  | _ :: _, _, i + 1, k => by
    cases k with
    | cons h1 h2 => exact .cons h1 (RpA.erase i h2)
/-- ints -/
theorem Rp.intE {H : Hp} {v : V} {i : Int} (h : Rp H v (.int i)) : v = .int i := by cases h; rfl
theorem Rp.blE {H : Hp} {v : V} {b : Bool} (h : Rp H v (.bool b)) : v = .bl b := by cases h; rfl
theorem Rp.nonE {H : Hp} {v : V} (h : Rp H v .none) : v = .non := by cases h; rfl
theorem Rp.tupE {H : Hp} {v : V} {ds : List PyData} (h : Rp H v (.tuple ds)) : ∃ a xs, v = .ref a ∧ Rd H a (.tup xs) ∧ RpA H xs ds := by
  cases h with
  | tup h1 h2 => exact ⟨_, _, rfl, h1, h2⟩
theorem RpA.intsE {H : Hp} : ∀ {ns : List Int} {vs : List V}, RpA H vs (ns.map PyData.int) → vs = ns.map V.int
  | [], _, h => by cases h; rfl
  | n :: ns, _, h => by
    cases h with
    | cons h1 h2 => rw [h1.intE, RpA.intsE h2]; rfl
theorem RpA.ints {H : Hp} : ∀ ns : List Int, RpA H (ns.map V.int) (ns.map PyData.int)
  | [] => .nil
  | n :: ns => .cons (.int n) (RpA.ints ns)
theorem RpA.blsE {H : Hp} : ∀ {ns : List Bool} {vs : List V}, RpA H vs (ns.map PyData.bool) → vs = ns.map V.bl
  | [], _, h => by cases h; rfl
  | n :: ns, _, h => by
    cases h with
    | cons h1 h2 => rw [h1.blE, RpA.blsE h2]; rfl
theorem RpA.nilE {H : Hp} {vs : List V} (h : RpA H vs []) : vs = [] := by cases h; rfl
theorem RpA.consE {H : Hp} {vs : List V} {d : PyData} {ds : List PyData} (h : RpA H vs (d :: ds)) : ∃ v ws, vs = v :: ws ∧ Rp H v d ∧ RpA H ws ds := by
  cases h with
  | cons h1 h2 => exact ⟨_, _, rfl, h1, h2⟩
theorem RpA.e1 {H : Hp} {vs : List V} {d : PyData} (h : RpA H vs [d]) : ∃ v, vs = [v] ∧ Rp H v d := by
  obtain ⟨v, ws, rfl, h1, h2⟩ := h.consE
  rw [h2.nilE]
  exact ⟨v, rfl, h1⟩
theorem RpA.e2 {H : Hp} {vs : List V} {d1 d2 : PyData} (h : RpA H vs [d1, d2]) : ∃ v1 v2, vs = [v1, v2] ∧ Rp H v1 d1 ∧ Rp H v2 d2 := by
  obtain ⟨v, ws, rfl, h1, h2⟩ := h.consE
  obtain ⟨v2, rfl, h3⟩ := h2.e1
  exact ⟨v, v2, rfl, h1, h3⟩
theorem RpA.e3 {H : Hp} {vs : List V} {d1 d2 d3 : PyData} (h : RpA H vs [d1, d2, d3]) : ∃ v1 v2 v3, vs = [v1, v2, v3] ∧ Rp H v1 d1 ∧ Rp H v2 d2 ∧ Rp H v3 d3 := by
  obtain ⟨v, ws, rfl, h1, h2⟩ := h.consE
  obtain ⟨v2, v3, rfl, h3, h4⟩ := h2.e2
  exact ⟨v, v2, v3, rfl, h1, h3, h4⟩
theorem RpA.e4 {H : Hp} {vs : List V} {d1 d2 d3 d4 : PyData} (h : RpA H vs [d1, d2, d3, d4]) : ∃ v1 v2 v3 v4, vs = [v1, v2, v3, v4] ∧ Rp H v1 d1 ∧ Rp H v2 d2 ∧ Rp H v3 d3 ∧ Rp H v4 d4 := by
  obtain ⟨v, ws, rfl, h1, h2⟩ := h.consE
  obtain ⟨v2, v3, v4, rfl, h3, h4, h5⟩ := h2.e3
  exact ⟨v, v2, v3, v4, rfl, h1, h3, h4, h5⟩

/-- a list of data -/
def LAt (H : Hp) (p : Addr) (ds : List PyData) : Prop := ∃ vs, H p = some (.lst vs) ∧ RpA H vs ds
theorem LAt.ex [Tbl] {H H' : Hp} {p : Addr} {ds : List PyData} (h : LAt H p ds) (e : Ex H H') : LAt H' p ds := by
  obtain ⟨vs, h1, h2⟩ := h
  exact ⟨vs, e.at h1, h2.ex e⟩

/-! ### what evaluates to what -/
def ED [Tbl] (te : TE) (σ : L2.St) (H : Hp) (d : PyData) : Prop := ∀ H1, Ex H H1 → ∀ Q : VK, (∀ v H2, Ex H1 H2 → Rp H2 v d → Q v H2) → te σ H1 Q
def EL [Tbl] (te : TE) (σ : L2.St) (H : Hp) (ds : List PyData) : Prop := ∀ H1, Ex H H1 → ∀ Q : VK, (∀ p H2, Nw H1 p → Ex H1 H2 → LAt H2 p ds → Q (.ref p) H2) → te σ H1 Q
def EA [Tbl] (ta : TA) (σ : L2.St) (H : Hp) (ds : List PyData) : Prop := ∀ H1, Ex H H1 → ∀ Q : List V → Hp → Prop, (∀ vs H2, Ex H1 H2 → RpA H2 vs ds → Q vs H2) → ta σ H1 Q

section
variable [Tbl] {K : PySem.W.Frag} {σ : L2.St} {H H' : Hp} {ta tb te tx : TE} {t u : TT} {v w : V} {d e d1 d2 : PyData} {ds es : List PyData} {i j : Int} {b c : Bool}
theorem ED.mono (e : Ex H H') (h : ED te σ H d) : ED te σ H' d := fun H1 a Q q => h H1 (e.trans a) Q q
theorem EL.mono (e : Ex H H') (h : EL te σ H ds) : EL te σ H' ds := fun H1 a Q q => h H1 (e.trans a) Q q
theorem EA.mono {ta : TA} (e : Ex H H') (h : EA ta σ H ds) : EA ta σ H' ds := fun H1 a Q q => h H1 (e.trans a) Q q
theorem ED.is (h : ED te σ H d) (q : d = e) : ED te σ H e := q ▸ h
theorem EL.is (h : EL te σ H ds) (q : ds = es) : EL te σ H es := q ▸ h
theorem ed_var {k : Nat} (h : σ[k]? = some (some v)) (r : Rp H v d) : ED (tVar k) σ H d := fun H1 x Q q => ⟨v, h, q v H1 (Ex.refl H1) (r.ex x)⟩
theorem ed_int : ED (tC (.int i)) σ H (.int i) := fun H1 _ _ q => q _ H1 (Ex.refl H1) (.int i)
theorem ed_non : ED (tC .non) σ H .none := fun H1 _ _ q => q _ H1 (Ex.refl H1) .non
theorem ed_bl : ED (tC (.bl b)) σ H (.bool b) := fun H1 _ _ q => q _ H1 (Ex.refl H1) (.bl b)
theorem ed_str {x : Str} : ED (tC (.str x)) σ H (.str x) := fun H1 _ _ q => q _ H1 (Ex.refl H1) (.str x)
theorem ed_ev (h : Ev te σ H v) (r : Rp H v d) : ED te σ H d := fun H1 x Q q => h H1 x Q fun H2 x2 => q v H2 x2 (r.ex (x.trans x2))
theorem ev_ed (h : ED te σ H (.int i)) : Ev te σ H (.int i) := fun H1 x Q q => h H1 x Q fun v H2 x2 r => by rw [r.intE]; exact q H2 x2
theorem ea_nil : EA tNil σ H [] := fun H1 _ _ q => q [] H1 (Ex.refl H1) .nil
theorem ea_cons {tr : TA} (h : ED ta σ H d) (hr : EA tr σ H ds) : EA (tCons ta tr) σ H (d :: ds) := fun H1 x _ q =>
  h H1 x _ fun v H2 x2 r => hr H2 (x.trans x2) _ fun vs H3 x3 rs => q (v :: vs) H3 (x2.trans x3) (.cons (r.ex x3) rs)
theorem ed_tup {ta : TA} (h : EA ta σ H ds) (hl : ds.length ≤ 100000) : ED (tTup ta) σ H (.tuple ds) := fun H1 x _ q =>
  h H1 x _ fun vs H2 x2 r => ⟨sz_of (by rw [r.len]; exact hl), fun p hp => q _ _ (x2.trans (Ex.new hp)) (.tup (.inl upd_same) (r.up (Tx.new hp)))⟩
theorem el_lst {ta : TA} (h : EA ta σ H ds) (hl : ds.length ≤ 100000) : EL (tLst ta) σ H ds := fun H1 x _ q =>
  h H1 x _ fun vs H2 x2 r => ⟨sz_of (by rw [r.len]; exact hl), fun p hp => q _ _ (fresh_back x2 (.of hp)) (x2.trans (Ex.new hp)) ⟨vs, upd_same, r.up (Tx.new hp)⟩⟩
theorem ed_I {f : Int → Int → Int} (ha : ED ta σ H (.int i)) (hb : ED tb σ H (.int j)) : ED (tOp (rI0 fun i j => .int (f i j)) ta tb) σ H (.int (f i j)) := fun H1 x _ q =>
  ha H1 x _ fun v H2 x2 r => hb H2 (x.trans x2) _ fun w H3 x3 s => ⟨i, j, r.intE, s.intE, q _ H3 (x2.trans x3) (.int _)⟩
theorem ed_IC {C : Int → Int → Prop} {f : Int → Int → Int} (ha : ED ta σ H (.int i)) (hb : ED tb σ H (.int j)) (hc : C i j) : ED (tOp (rI C fun i j => .int (f i j)) ta tb) σ H (.int (f i j)) := fun H1 x _ q =>
  ha H1 x _ fun v H2 x2 r => hb H2 (x.trans x2) _ fun w H3 x3 s => ⟨i, j, r.intE, s.intE, hc, q _ H3 (x2.trans x3) (.int _)⟩
theorem ed_B {f : Int → Int → Bool} (ha : ED ta σ H (.int i)) (hb : ED tb σ H (.int j)) : ED (tOp (rI0 fun i j => .bl (f i j)) ta tb) σ H (.bool (f i j)) := fun H1 x _ q =>
  ha H1 x _ fun v H2 x2 r => hb H2 (x.trans x2) _ fun w H3 x3 s => ⟨i, j, r.intE, s.intE, q _ H3 (x2.trans x3) (.bl _)⟩
theorem ed_un {f : Int → Int} (ha : ED ta σ H (.int i)) : ED (tUn (rU fun i => .int (f i)) ta) σ H (.int (f i)) := fun H1 x _ q =>
  ha H1 x _ fun v H2 x2 r => ⟨i, r.intE, q _ H2 x2 (.int _)⟩
/-- t[i] of a tuple -/
theorem ed_ix {k : Nat} (ha : ED ta σ H (.tuple ds)) (hb : ED tb σ H (.int (k : Int))) (hk : ds[k]? = some d) : ED (tOp (rIxT K) ta tb) σ H d := fun H1 x _ q =>
  ha H1 x _ fun v H2 x2 r => hb H2 (x.trans x2) _ fun w H3 x3 s => by
    obtain ⟨a, xs, rfl, ha', rs⟩ := (r.ex x3).tupE
    obtain ⟨y, hy, ry⟩ := rs.get hk
    exact ⟨a, xs, (k : Int), y, rfl, s.intE, SqR ha', atI_nat hy, q y H3 (x2.trans x3) ry⟩
/-- the last item -/
theorem ed_ixI (ha : ED ta σ H (.tuple ds)) (hb : ED tb σ H (.int i)) (hk : atI ds i = some d) : ED (tOp (rIxT K) ta tb) σ H d := fun H1 x _ q =>
  ha H1 x _ fun v H2 x2 r => hb H2 (x.trans x2) _ fun w H3 x3 s => by
    obtain ⟨a, xs, rfl, ha', rs⟩ := (r.ex x3).tupE
    unfold atI at hk
    rw [← rs.len] at hk
    cases hn : ixN xs.length i with
    | none => rw [hn] at hk; cases hk
    | some m =>
      rw [hn] at hk
      obtain ⟨y, hy, ry⟩ := rs.get (i := m) hk
      refine ⟨a, xs, i, y, rfl, s.intE, SqR ha', ?_, q y H3 (x2.trans x3) ry⟩
      unfold atI
      rw [hn]
      exact hy
/-- l[i] of a list that a name holds -/
theorem ed_ixL {k : Nat} {p : Addr} (ha : Ev ta σ H (.ref p)) (hp : LAt H p ds) (hb : ED tb σ H (.int (k : Int))) (hk : ds[k]? = some d) : ED (tOp (rIxL K) ta tb) σ H d := fun H1 x _ q =>
  ha H1 x _ fun H2 x2 => hb H2 (x.trans x2) _ fun w H3 x3 s => by
    obtain ⟨xs, ha', rs⟩ := hp.ex ((x.trans x2).trans x3)
    obtain ⟨y, hy, ry⟩ := rs.get hk
    exact ⟨p, xs, (k : Int), y, rfl, s.intE, SqL.of ha', atI_nat hy, q y H3 (x2.trans x3) ry⟩
/-- [a, b, ..][i], the list made on the way -/
theorem ed_ixN {k : Nat} (ha : EL ta σ H ds) (hb : ED tb σ H (.int (k : Int))) (hk : ds[k]? = some d) : ED (tOp (rIxL K) ta tb) σ H d := fun H1 x _ q =>
  ha H1 x _ fun p H2 _ x2 hp => hb H2 (x.trans x2) _ fun w H3 x3 s => by
    obtain ⟨xs, ha', rs⟩ := hp.ex x3
    obtain ⟨y, hy, ry⟩ := rs.get hk
    exact ⟨p, xs, (k : Int), y, rfl, s.intE, SqL.of ha', atI_nat hy, q y H3 (x2.trans x3) ry⟩

/-! ### built-ins -/
theorem ed_cb {r : List V → Hp → VK → Prop} {ta : TA} (h : EA ta σ H ds) (hr : ∀ vs H1, Ex H H1 → RpA H1 vs ds → ∀ Q : VK, (∀ v H2, Ex H1 H2 → Rp H2 v d → Q v H2) → r vs H1 Q) : ED (tCB r ta) σ H d := fun H1 x Q q =>
  h H1 x _ fun vs H2 x2 r => hr vs H2 (x.trans x2) r Q fun v H3 x3 s => q v H3 (x2.trans x3) s
theorem ed_cbL {r : List V → Hp → VK → Prop} (h : EL ta σ H ds) (hr : ∀ p H1, Ex H H1 → LAt H1 p ds → ∀ Q : VK, (∀ v H2, Ex H1 H2 → Rp H2 v d → Q v H2) → r [.ref p] H1 Q) : ED (tCB r (tCons ta tNil)) σ H d := fun H1 x Q q =>
  h H1 x _ fun p H2 _ x2 hp => hr p H2 (x.trans x2) hp Q fun v H3 x3 s => q v H3 (x2.trans x3) s
/-- .. of a list at a name -/
theorem ed_cbV {r : List V → Hp → VK → Prop} {z : V} (h : Ev ta σ H z) (hr : ∀ H1, Ex H H1 → ∀ Q : VK, (∀ v H2, Ex H1 H2 → Rp H2 v d → Q v H2) → r [z] H1 Q) : ED (tCB r (tCons ta tNil)) σ H d := fun H1 x Q q =>
  h H1 x _ fun H2 x2 => hr H2 (x.trans x2) Q fun v H3 x3 s => q v H3 (x2.trans x3) s
theorem el_cbV {r : List V → Hp → VK → Prop} {z : V} (h : Ev ta σ H z) (hr : ∀ H1, Ex H H1 → ∀ Q : VK, (∀ p H2, Nw H1 p → Ex H1 H2 → LAt H2 p ds → Q (.ref p) H2) → r [z] H1 Q) : EL (tCB r (tCons ta tNil)) σ H ds := fun H1 x Q q =>
  h H1 x _ fun H2 x2 => hr H2 (x.trans x2) Q fun p H3 hp x3 s => q p H3 (fresh_back x2 hp) (x2.trans x3) s
theorem el_cb {r : List V → Hp → VK → Prop} {ta : TA} (h : EA ta σ H ds) (hr : ∀ vs H1, Ex H H1 → RpA H1 vs ds → ∀ Q : VK, (∀ p H2, Nw H1 p → Ex H1 H2 → LAt H2 p es → Q (.ref p) H2) → r vs H1 Q) : EL (tCB r ta) σ H es := fun H1 x Q q =>
  h H1 x _ fun vs H2 x2 r => hr vs H2 (x.trans x2) r Q fun p H3 hp x3 s => q p H3 (fresh_back x2 hp) (x2.trans x3) s
theorem el_cbL {r : List V → Hp → VK → Prop} (h : EL ta σ H ds) (hr : ∀ p H1, Ex H H1 → LAt H1 p ds → ∀ Q : VK, (∀ p H2, Nw H1 p → Ex H1 H2 → LAt H2 p es → Q (.ref p) H2) → r [.ref p] H1 Q) : EL (tCB r (tCons ta tNil)) σ H es := fun H1 x Q q =>
  h H1 x _ fun p H2 _ x2 hp => hr p H2 (x.trans x2) hp Q fun p H3 hp x3 s => q p H3 (fresh_back x2 hp) (x2.trans x3) s
abbrev rLen (K : PySem.W.Frag) : List V → Hp → VK → Prop := fun xs H Q => ∃ p ys, xs = [.ref p] ∧ (SqL K H p ys ∨ SqT K H p ys) ∧ Q (.int ys.length) H
theorem ed_lenT (h : ED ta σ H (.tuple ds)) : ED (tCB (rLen K) (tCons ta tNil)) σ H (.int (ds.length : Int)) :=
  ed_cb (ea_cons h ea_nil) fun vs H1 _ r Q q => by
    obtain ⟨v, rfl, r0⟩ := r.e1
    obtain ⟨a, xs, rfl, ha, rs⟩ := r0.tupE
    exact ⟨a, xs, rfl, .inr (SqR ha), q _ H1 (Ex.refl H1) (by rw [rs.len]; exact .int _)⟩
theorem ed_lenL {p : Addr} (h : Ev ta σ H (.ref p)) (hp : LAt H p ds) : ED (tCB (rLen K) (tCons ta tNil)) σ H (.int (ds.length : Int)) :=
  ed_cbV h fun H1 x Q q => by
    obtain ⟨xs, ha, rs⟩ := hp.ex x
    exact ⟨p, xs, rfl, .inl (SqL.of ha), q _ H1 (Ex.refl H1) (by rw [rs.len]; exact .int _)⟩
/-- len of the script -/
theorem ed_lenS {p : Addr} {xs : List V} (h : Ev ta σ H (.ref p)) (hp : SqL K H p xs) : ED (tCB (rLen K) (tCons ta tNil)) σ H (.int (xs.length : Int)) :=
  ed_cbV h fun H1 x Q q => ⟨p, xs, rfl, .inl (ex_l x hp), q _ H1 (Ex.refl H1) (.int _)⟩
theorem ed_lenN (h : EL ta σ H ds) : ED (tCB (rLen K) (tCons ta tNil)) σ H (.int (ds.length : Int)) :=
  ed_cbL h fun p H1 _ hp Q q => by
    obtain ⟨xs, ha, rs⟩ := hp
    exact ⟨p, xs, rfl, .inl (SqL.of ha), q _ H1 (Ex.refl H1) (by rw [rs.len]; exact .int _)⟩
/-- tuple(a list just made) -/
abbrev rTupOf (K : PySem.W.Frag) : List V → Hp → VK → Prop := fun xs H Q => ∃ p ys, xs = [.ref p] ∧ ((SqL K H p ys ∧ ∀ l, H l = none → Q (.ref l) (upd H l (.tup ys))) ∨ (SqT K H p ys ∧ Q (.ref p) H))
theorem ed_tupN (h : EL ta σ H ds) : ED (tCB (rTupOf K) (tCons ta tNil)) σ H (.tuple ds) :=
  ed_cbL h fun p H1 _ hp Q q => by
    obtain ⟨xs, ha, rs⟩ := hp
    exact ⟨p, xs, rfl, .inl ⟨SqL.of ha, fun l hl => q _ _ (Ex.new hl) (.tup (.inl upd_same) (rs.up (Tx.new hl)))⟩⟩
theorem ed_tupL {p : Addr} (h : Ev ta σ H (.ref p)) (hp : LAt H p ds) : ED (tCB (rTupOf K) (tCons ta tNil)) σ H (.tuple ds) :=
  ed_cbV h fun H1 x Q q => by
    obtain ⟨xs, ha, rs⟩ := hp.ex x
    exact ⟨p, xs, rfl, .inl ⟨SqL.of ha, fun l hl => q _ _ (Ex.new hl) (.tup (.inl upd_same) (rs.up (Tx.new hl)))⟩⟩
/-- list(a tuple) -/
abbrev rLstOf (K : PySem.W.Frag) : List V → Hp → VK → Prop := fun xs H Q => ∃ p ys, xs = [.ref p] ∧ (SqL K H p ys ∨ SqT K H p ys) ∧ ∀ l, H l = none → Q (.ref l) (upd H l (.lst ys))
theorem el_listT (h : ED ta σ H (.tuple ds)) : EL (tCB (rLstOf K) (tCons ta tNil)) σ H ds :=
  el_cb (ea_cons h ea_nil) fun vs H1 _ r Q q => by
    obtain ⟨v, rfl, r0⟩ := r.e1
    obtain ⟨a, xs, rfl, ha, rs⟩ := r0.tupE
    exact ⟨a, xs, rfl, .inr (SqR ha), fun l hl => q _ _ (.of hl) (Ex.new hl) ⟨xs, upd_same, rs.up (Tx.new hl)⟩⟩
/-- sum of a list of ints -/
theorem ed_sum {ns : List Int} (h : EL ta σ H (ns.map PyData.int)) : ED (tCB (rSum K) (tCons ta tNil)) σ H (.int ns.sum) :=
  ed_cbL h fun p H1 _ hp Q q => by
    obtain ⟨xs, ha, rs⟩ := hp
    rw [rs.intsE] at ha
    exact ⟨p, ns, rfl, SqL.of ha, q _ H1 (Ex.refl H1) (.int _)⟩
theorem ed_all {bs : List Bool} (h : EL ta σ H (bs.map PyData.bool)) : ED (tCB (rAll K) (tCons ta tNil)) σ H (.bool (bs.all id)) :=
  ed_cbL h fun p H1 _ hp Q q => by
    obtain ⟨xs, ha, rs⟩ := hp
    rw [rs.blsE] at ha
    exact ⟨p, bs, rfl, SqL.of ha, q _ H1 (Ex.refl H1) (.bl _)⟩
/-- int(a truth) -/
abbrev rInt1 : List V → Hp → VK → Prop := fun xs H Q => (∃ i, xs = [.int i] ∧ Q (.int i) H) ∨ ∃ k, xs = [.bl k] ∧ Q (.int (if k then 1 else 0)) H
theorem ed_intB (h : ED ta σ H (.bool b)) : ED (tCB rInt1 (tCons ta tNil)) σ H (.int (if b then 1 else 0)) :=
  ed_cb (ea_cons h ea_nil) fun vs H1 _ r Q q => by
    obtain ⟨v, rfl, r0⟩ := r.e1
    rw [r0.blE]
    exact .inr ⟨b, rfl, q _ H1 (Ex.refl H1) (.int _)⟩
theorem ed_2 {g : Int → Int → Int} (ha : ED ta σ H (.int i)) (hb : ED tb σ H (.int j)) : ED (tCB (fun xs H Q => ∃ i j, xs = [V.int i, V.int j] ∧ Q (.int (g i j)) H) (tCons ta (tCons tb tNil))) σ H (.int (g i j)) :=
  ed_cb (ea_cons ha (ea_cons hb ea_nil)) fun vs H1 _ r Q q => by
    obtain ⟨v, w, rfl, r0, s⟩ := r.e2
    rw [r0.intE, s.intE]
    exact ⟨i, j, rfl, q _ H1 (Ex.refl H1) (.int _)⟩

/-! ### tests -/
theorem et_d (h : ED te σ H (.bool b)) : EvT (tTest te) σ H b := fun H1 x _ q => h H1 x _ fun v H2 x2 r => ⟨b, r.blE, q H2 x2⟩
theorem et_dB (h : ED te σ H (.bool b)) : EvT (tB te) σ H b := fun H1 x _ q => h H1 x _ fun v H2 x2 r => ⟨b, r.blE, q H2 x2⟩
theorem ed_if (h : EvT t σ H b) (h1 : b = true → ED ta σ H d) (h2 : b = false → ED tb σ H d) : ED (tIf t ta tb) σ H d := fun H1 x Q q => h H1 x _ fun H2 x2 => by
  cases b with
  | true =>
    show ta σ H2 Q
    exact h1 rfl H2 (x.trans x2) Q fun v H3 x3 r => q v H3 (x2.trans x3) r
  | false =>
    show tb σ H2 Q
    exact h2 rfl H2 (x.trans x2) Q fun v H3 x3 r => q v H3 (x2.trans x3) r
theorem ed_andV {a b : Bool} (h1 : ED ta σ H (.bool a)) (h2 : a = true → ED tb σ H (.bool b)) : ED (tAndV ta tb) σ H (.bool (a && b)) := fun H1 x Q q => h1 H1 x _ fun v H2 x2 r => ⟨a, r.blE, by
  cases a with
  | true =>
    show tb σ H2 Q
    exact h2 rfl H2 (x.trans x2) Q fun v H3 x3 r => q v H3 (x2.trans x3) r
  | false =>
    show Q (.bl false) H2
    exact q _ H2 x2 (.bl false)⟩
theorem ed_orV {a b : Bool} (h1 : ED ta σ H (.bool a)) (h2 : a = false → ED tb σ H (.bool b)) : ED (tOrV ta tb) σ H (.bool (a || b)) := fun H1 x Q q => h1 H1 x _ fun v H2 x2 r => ⟨a, r.blE, by
  cases a with
  | true =>
    show Q (.bl true) H2
    exact q _ H2 x2 (.bl true)
  | false =>
    show tb σ H2 Q
    exact h2 rfl H2 (x.trans x2) Q fun v H3 x3 r => q v H3 (x2.trans x3) r⟩
theorem ed_notV {a : Bool} (h1 : ED ta σ H (.bool a)) : ED (tNotV ta) σ H (.bool (!a)) := fun H1 x _ q => h1 H1 x _ fun v H2 x2 r => ⟨a, r.blE, q _ H2 x2 (.bl _)⟩
/-- == and != -/
theorem ed_eqS (ha : Ev ta σ H v) (hb : Ev tb σ H w) (hs : scal v w = true) : ED (tOp rEq ta tb) σ H (.bool (decide (v = w))) := fun H1 x Q q =>
  ha H1 x _ fun H2 x2 => hb H2 (x.trans x2) _ fun H3 x3 => ⟨hs, q _ H3 (x2.trans x3) (.bl _)⟩
theorem ed_eqI (ha : ED ta σ H (.int i)) (hb : ED tb σ H (.int j)) : ED (tOp rEq ta tb) σ H (.bool (decide (i = j))) := by
  have h := ed_eqS (ev_ed ha) (ev_ed hb) rfl
  have e : decide (V.int i = V.int j) = decide (i = j) := by
    by_cases q : i = j
    · subst q; simp
    · rw [decide_eq_false q, decide_eq_false fun z => q (V.int.inj z)]
  rw [e] at h
  exact h
theorem ed_neI (ha : ED ta σ H (.int i)) (hb : ED tb σ H (.int j)) : ED (tOp rNe ta tb) σ H (.bool (!decide (i = j))) := fun H1 x Q q =>
  ha H1 x _ fun v H2 x2 r => hb H2 (x.trans x2) _ fun w H3 x3 s => by
    rw [r.intE, s.intE]
    refine ⟨rfl, ?_⟩
    have e : decide (V.int i = V.int j) = decide (i = j) := by
      by_cases q : i = j
      · subst q; simp
      · rw [decide_eq_false q, decide_eq_false fun z => q (V.int.inj z)]
    rw [e]
    exact q _ H3 (x2.trans x3) (.bl _)
theorem ed_eqD (ha : ED ta σ H d1) (hb : ED tb σ H d2) (s1 : SeqAt.shaped d1 = true) (s2 : SeqAt.shaped d2 = true) : ED (tOp (rEqD K) ta tb) σ H (.bool (PyData.eqv d1 d2)) := fun H1 x Q q =>
  ha H1 x _ fun v H2 x2 r => hb H2 (x.trans x2) _ fun w H3 x3 s => ⟨d1, d2, (r.ex x3).dp, s.dp, s1, s2, q _ H3 (x2.trans x3) (.bl _)⟩
theorem ed_neD (ha : ED ta σ H d1) (hb : ED tb σ H d2) (s1 : SeqAt.shaped d1 = true) (s2 : SeqAt.shaped d2 = true) : ED (tOp (rNeD K) ta tb) σ H (.bool (!PyData.eqv d1 d2)) := fun H1 x Q q =>
  ha H1 x _ fun v H2 x2 r => hb H2 (x.trans x2) _ fun w H3 x3 s => ⟨d1, d2, (r.ex x3).dp, s.dp, s1, s2, q _ H3 (x2.trans x3) (.bl _)⟩
theorem ed_eqB {a b : Bool} (ha : ED ta σ H (.bool a)) (hb : ED tb σ H (.bool b)) : ED (tOp rEq ta tb) σ H (.bool (decide (a = b))) := fun H1 x Q q =>
  ha H1 x _ fun v H2 x2 r => hb H2 (x.trans x2) _ fun w H3 x3 s => by
    rw [r.blE, s.blE]
    refine ⟨rfl, ?_⟩
    have e : decide (V.bl a = V.bl b) = decide (a = b) := by cases a <;> cases b <;> rfl
    rw [e]
    exact q _ H3 (x2.trans x3) (.bl _)
theorem ed_neB {a b : Bool} (ha : ED ta σ H (.bool a)) (hb : ED tb σ H (.bool b)) : ED (tOp rNe ta tb) σ H (.bool (!decide (a = b))) := fun H1 x Q q =>
  ha H1 x _ fun v H2 x2 r => hb H2 (x.trans x2) _ fun w H3 x3 s => by
    rw [r.blE, s.blE]
    refine ⟨rfl, ?_⟩
    have e : decide (V.bl a = V.bl b) = decide (a = b) := by cases a <;> cases b <;> rfl
    rw [e]
    exact q _ H3 (x2.trans x3) (.bl _)
/-- isinstance(x, T), T a built-in class -/
def tyD : PyData → String
  | .none => "NoneType"
  | .bool _ => "bool"
  | .int _ => "int"
  | .str _ => "str"
  | .tuple _ => "tuple"
  | .list _ => "list"
  | .dict _ => "dict"
theorem Rp.ty {d : PyData} {v : V} (h : Rp H v d) : TyX K H v (.type (tyD d)) := by
  cases h with
  | non => exact .base .non
  | bl b => exact .base (.bl b)
  | int i => exact .base (.int i)
  | str x => exact .base (.str x)
  | tup h1 _ => exact h1.elim (fun h => .base (.tup h)) fun ⟨_, h⟩ => .fTuple h
theorem ed_isi {T : String} {b : Bool} (ha : ED ta σ H d) (hk : kitB (tyD d) T = some b) : ED (tCB (rIsi K) (tCons ta (tCons (tC (.ty T)) tNil))) σ H (.bool b) := fun H1 x Q q =>
  ha H1 x _ fun v H2 x2 r => ⟨v, .ty T, _, _, b, rfl, .ty T, r.ty, kit_ty hk, q _ H2 x2 (.bl b)⟩
/-- two lists -/
theorem LAt.dp {p : Addr} (h : LAt H p ds) : Dp K H (.ref p) (.list ds) := by
  obtain ⟨vs, h1, h2⟩ := h
  exact .lst (SqL.of h1) (RpA.dp _ _ h2)
theorem ed_eqLL (ha : EL ta σ H ds) (hb : EL tb σ H es) (s1 : SeqAt.shaped (.list ds) = true) (s2 : SeqAt.shaped (.list es) = true) : ED (tOp (rEqD K) ta tb) σ H (.bool (PyData.eqv (.list ds) (.list es))) := fun H1 x Q q =>
  ha H1 x _ fun v H2 _ x2 r => hb H2 (x.trans x2) _ fun w H3 _ x3 s => ⟨_, _, (r.ex x3).dp, s.dp, s1, s2, q _ H3 (x2.trans x3) (.bl _)⟩
theorem ed_neLL (ha : EL ta σ H ds) (hb : EL tb σ H es) (s1 : SeqAt.shaped (.list ds) = true) (s2 : SeqAt.shaped (.list es) = true) : ED (tOp (rNeD K) ta tb) σ H (.bool (!PyData.eqv (.list ds) (.list es))) := fun H1 x Q q =>
  ha H1 x _ fun v H2 _ x2 r => hb H2 (x.trans x2) _ fun w H3 _ x3 s => ⟨_, _, (r.ex x3).dp, s.dp, s1, s2, q _ H3 (x2.trans x3) (.bl _)⟩
/-- x in a list, a tuple, of ints -/
theorem inV_ints (i : Int) : ∀ ns : List Int, inV (.int i) (ns.map V.int) = decide (i ∈ ns)
  | [] => rfl
  | n :: ns => by
    have h := inV_ints i ns
    unfold inV at h ⊢
    rw [List.map_cons, List.any_cons, h]
    have e : eqV (V.int n) (V.int i) = decide (n = i) := by
      unfold eqV
      first | rfl | simp | (by_cases q : n = i <;> simp [q])
    rw [e]
    by_cases q : n = i
    · subst q; simp
    · have q' : ¬ i = n := fun z => q z.symm
      simp [q, q']
theorem flat_ints : ∀ ns : List Int, (ns.map V.int).all flatV = true
  | [] => rfl
  | n :: ns => by rw [List.map_cons, List.all_cons, flat_ints ns]; rfl
theorem ed_inT {neg : Bool} {ns : List Int} (ha : ED ta σ H (.int i)) (hb : ED tb σ H (.tuple (ns.map PyData.int))) : ED (tOp (rIn K neg) ta tb) σ H (.bool (if neg then !decide (i ∈ ns) else decide (i ∈ ns))) := fun H1 x Q q =>
  ha H1 x _ fun v H2 x2 r => hb H2 (x.trans x2) _ fun w H3 x3 s => by
    obtain ⟨a, xs, rfl, ha', rs⟩ := s.tupE
    rw [rs.intsE] at ha'
    rw [r.intE]
    refine ⟨a, _, rfl, .inr (SqR ha'), rfl, flat_ints ns, ?_⟩
    rw [inV_ints]
    exact q _ H3 (x2.trans x3) (.bl _)
theorem ed_inL {neg : Bool} {ns : List Int} {p : Addr} (ha : ED ta σ H (.int i)) (hb : Ev tb σ H (.ref p)) (hp : LAt H p (ns.map PyData.int)) : ED (tOp (rIn K neg) ta tb) σ H (.bool (if neg then !decide (i ∈ ns) else decide (i ∈ ns))) := fun H1 x Q q =>
  ha H1 x _ fun v H2 x2 r => hb H2 (x.trans x2) _ fun H3 x3 => by
    obtain ⟨xs, ha', rs⟩ := hp.ex ((x.trans x2).trans x3)
    rw [rs.intsE] at ha'
    rw [r.intE]
    refine ⟨p, _, rfl, .inl (SqL.of ha'), rfl, flat_ints ns, ?_⟩
    rw [inV_ints]
    exact q _ H3 (x2.trans x3) (.bl _)

/-! ### calls of defs: promises of one form -/
/-- called with the data ds it hands back the data d, and changes nothing -/
def SpR [Tbl] (R : List PyData → PyData → Prop) : Sp := fun vs H Q _ => ∃ ds d, RpA H vs ds ∧ R ds d ∧ ∀ v H', Ex H H' → Rp H' v d → Q v H'
/-- .. a new list of the data es -/
def SpL [Tbl] (R : List PyData → List PyData → Prop) : Sp := fun vs H Q _ => ∃ ds es, RpA H vs ds ∧ R ds es ∧ ∀ p H', Nw H p → Ex H H' → LAt H' p es → Q (.ref p) H'
theorem ed_call {R : List PyData → PyData → Prop} {E : XK} {ta : TA} (h : EA ta σ H ds) (hr : R ds d) : ED (tCall (SpR R) [] E ta) σ H d := fun H1 x Q q =>
  h H1 x _ fun vs H2 x2 r => ⟨ds, d, by rw [List.append_nil]; exact r, hr, fun v H3 x3 s => q v H3 (x2.trans x3) s⟩
theorem el_call {R : List PyData → List PyData → Prop} {E : XK} {ta : TA} (h : EA ta σ H ds) (hr : R ds es) : EL (tCall (SpL R) [] E ta) σ H es := fun H1 x Q q =>
  h H1 x _ fun vs H2 x2 r => ⟨ds, es, by rw [List.append_nil]; exact r, hr, fun p H3 hp x3 s => q p H3 (fresh_back x2 hp) (x2.trans x3) s⟩

/-! ### comprehensions -/
theorem filt_yes {α : Type} {p : α → Bool} {l : List α} {x : α} {i : Nat} (h : l[i]? = some x) (q : p x = true) : ((l.take (i + 1)).filter p) = (l.take i).filter p ++ [x] := by
  rw [List.take_add_one, h]
  simp [q]
theorem filt_no {α : Type} {p : α → Bool} {l : List α} {x : α} {i : Nat} (h : l[i]? = some x) (q : p x = false) : ((l.take (i + 1)).filter p) = (l.take i).filter p := by
  rw [List.take_add_one, h]
  simp [q]
/-- the word: the list so far -/
def Cwd [Tbl] (H : Hp) (Dl : Addr) (es : List PyData) (H' : Hp) : Prop := Nw H Dl ∧ Ex H H' ∧ LAt H' Dl es
theorem cwd_turn {σ2 : L2.St} {Dl : Addr} {p : Bool} {y : PyData} {W' : Hp → Prop} (c : Cwd H Dl es H') (hz : es.length < 100000) (ht : EvT t σ2 H p) (he : p = true → ED te σ2 H y)
    (h1 : p = true → ∀ H2, Cwd H Dl (es ++ [y]) H2 → W' H2) (h0 : p = false → ∀ H2, Cwd H Dl es H2 → W' H2) :
    t σ2 H' fun b H3 => if b = true then te σ2 H3 fun y H4 => ∃ acc, H4 Dl = some (.lst acc) ∧ acc.length < sizeLine ∧ W' (upd H4 Dl (.lst (acc ++ [y]))) else W' H3 := by
  obtain ⟨p1, p2, p3⟩ := c
  refine ht H' p2 _ fun H3 e3 => ?_
  cases hf : p with
  | true =>
    show te σ2 H3 fun y H4 => ∃ acc, H4 Dl = some (.lst acc) ∧ acc.length < sizeLine ∧ W' (upd H4 Dl (.lst (acc ++ [y])))
    refine he hf H3 (p2.trans e3) _ fun v H4 e4 r => ?_
    obtain ⟨acc, ha, ra⟩ := p3.ex (e3.trans e4)
    refine ⟨acc, ha, sz_lt (by rw [ra.len]; exact hz), h1 hf _ ⟨p1, Ex.mut ((p2.trans e3).trans e4) p1 ha, _, upd_same, (ra.append (.one r)).up (Tx.upd ha True.intro)⟩⟩
  | false =>
    show W' H3
    exact h0 hf H3 ⟨p1, p2.trans e3, p3.ex e3⟩
/-- over a tuple of data, the target's slots told by the caller: σ2 the state behind the target -/
theorem el_lcTg {α : Type} {l : List α} {enc : α → PyData} {tl : TE} {g : TG} {vs : List Nat} (p : α → Bool) (f : α → PyData) (hl : ED tl σ H (.tuple (l.map enc))) (hz : l.length ≤ 40000)
    (hg : ∀ (x : V) (a : α) H1, Ex H H1 → a ∈ l → Rp H1 x (enc a) → ∃ σ2, wipe σ2 vs = wipe σ vs ∧ (∀ H2, Ex H1 H2 → ∀ Q : L2.St → Hp → Prop, Q σ2 H2 → g x (wipe σ vs) H2 Q) ∧ EvT t σ2 H1 (p a) ∧ (p a = true → ED te σ2 H1 (f a))) :
    EL (tLc (iTup K tl) g t te vs) σ H ((l.filter p).map f) := fun H0 x0 Q q => hl H0 x0 _ fun v H1 x1 r => by
  obtain ⟨a, xs, rfl, ha, rs⟩ := r.tupE
  refine ⟨a, rfl, ⟨xs, SqR ha⟩, fun Dl hD => ?_⟩
  refine lc_tup (xs := xs) (fun i H' => Cwd H1 Dl (((l.take i).filter p).map f) H') ⟨.of hD, Ex.new hD, [], upd_same, .nil⟩ (fun i H' _ c => SqR (c.2.1.rd ha)) (fun i x H' hi c => ?_) (fun H' c => ?_)
  · obtain ⟨d, hd, rd⟩ := rs.getV hi
    rw [List.getElem?_map] at hd
    cases hc : l[i]? with
    | none => rw [hc] at hd; cases hd
    | some b =>
      rw [hc] at hd
      obtain rfl : enc b = d := Option.some.inj hd
      obtain ⟨σ2, hw, hgo, ht, he⟩ := hg x b H1 (x0.trans x1) (List.mem_of_getElem? hc) rd
      refine hgo H' c.2.1 _ ⟨hw, ?_⟩
      have hlen : (((l.take i).filter p).map f).length < 100000 := by
        have h1 := List.length_filter_le p (l.take i)
        have h2 : (l.take i).length ≤ l.length := by rw [List.length_take]; omega
        rw [List.length_map]
        omega
      refine cwd_turn (es := ((l.take i).filter p).map f) (p := p b) (y := f b) c hlen ht he (fun hp H2 c2 => ?_) (fun hp H2 c2 => ?_)
      · rw [filt_yes hc hp, List.map_append]
        exact c2
      · rw [filt_no hc hp]
        exact c2
  · have e : (l.take xs.length) = l := by rw [rs.len, List.length_map]; exact List.take_length
    rw [e] at c
    exact q Dl H' (fresh_back x1 c.1) (x1.trans c.2.1) c.2.2
/-- .. the target a name -/
theorem el_lcT {α : Type} {l : List α} {enc : α → PyData} {tl : TE} {j : Nat} {vs : List Nat} (p : α → Bool) (f : α → PyData) (hl : ED tl σ H (.tuple (l.map enc))) (hz : l.length ≤ 40000) (hw : ∀ x, wipe ((wipe σ vs).set j (some x)) vs = wipe σ vs)
    (hg : ∀ (x : V) (a : α) H1, Ex H H1 → a ∈ l → Rp H1 x (enc a) → EvT t ((wipe σ vs).set j (some x)) H1 (p a) ∧ (p a = true → ED te ((wipe σ vs).set j (some x)) H1 (f a))) :
    EL (tLc (iTup K tl) (gName j) t te vs) σ H ((l.filter p).map f) :=
  el_lcTg p f hl hz fun x d H1 e hd r => ⟨_, hw x, fun H2 _ Q q => q, (hg x d H1 e hd r).1, (hg x d H1 e hd r).2⟩
theorem et_yes : EvT tYes σ H true := fun H1 _ _ q => q H1 (Ex.refl H1)
/-- .. no test -/
theorem el_lcT0 {α : Type} {l : List α} {enc : α → PyData} {tl : TE} {j : Nat} {vs : List Nat} (f : α → PyData) (hl : ED tl σ H (.tuple (l.map enc))) (hz : l.length ≤ 40000) (hw : ∀ x, wipe ((wipe σ vs).set j (some x)) vs = wipe σ vs)
    (hg : ∀ (x : V) (a : α) H1, Ex H H1 → a ∈ l → Rp H1 x (enc a) → ED te ((wipe σ vs).set j (some x)) H1 (f a)) :
    EL (tLc (iTup K tl) (gName j) tYes te vs) σ H (l.map f) := by
  have h := el_lcT (K := K) (t := tYes) (te := te) (fun _ => true) f hl hz hw fun x d H1 e hd r => ⟨et_yes, fun _ => hg x d H1 e hd r⟩
  have e : l.filter (fun _ => true) = l := by simp
  rw [e] at h
  exact h
/-- over a list of data that tl evaluates to: P tells what tl hands back -/
theorem lcL_core {α : Type} {l : List α} {enc : α → PyData} {g : TG} {vs : List Nat} {a : Addr} {H1 : Hp} (p : α → Bool) (f : α → PyData) (hp : LAt H1 a (l.map enc)) (hz : l.length ≤ 40000)
    (hg : ∀ (x : V) (b : α), b ∈ l → Rp H1 x (enc b) → ∃ σ2, wipe σ2 vs = wipe σ vs ∧ (∀ H2, Ex H1 H2 → ∀ Q : L2.St → Hp → Prop, Q σ2 H2 → g x (wipe σ vs) H2 Q) ∧ EvT t σ2 H1 (p b) ∧ (p b = true → ED te σ2 H1 (f b)))
    {Q : VK} (q : ∀ p' H2, Nw H1 p' → Ex H1 H2 → LAt H2 p' ((l.filter p).map f) → Q (.ref p') H2) :
    ∀ D, H1 D = none → ∃ W : Nat → Nat → Hp → Prop, (∃ m, W 0 m (upd H1 D (.lst []))) ∧ ∀ i m H, W i m H →
      ((Itl K a).stop i H ∧ Q (.ref D) H) ∨ ((Itl K a).go i H ∧ ∃ N : Hp → Prop, (∀ H', N H' → ∃ m', m' < m ∧ W (i + 1) m' H') ∧ ∀ x H', (Itl K a).yld i H x H' → g x (wipe σ vs) H' fun σ2 H2 => wipe σ2 vs = wipe σ vs ∧ t σ2 H2 fun b H3 => if b = true then te σ2 H3 fun y H4 => ∃ acc, H4 D = some (.lst acc) ∧ acc.length < sizeLine ∧ N (upd H4 D (.lst (acc ++ [y]))) else N H3) := fun Dl hD => by
  obtain ⟨xs, ha, rs⟩ := hp
  refine lc_list (xs := xs) (fun i H' => Cwd H1 Dl (((l.take i).filter p).map f) H') ⟨.of hD, Ex.new hD, [], upd_same, .nil⟩ (fun i H' _ c => SqL.of (c.2.1.at ha)) (fun i x H' hi c => ?_) (fun H' c => ?_)
  · obtain ⟨d, hd, rd⟩ := rs.getV hi
    rw [List.getElem?_map] at hd
    cases hc : l[i]? with
    | none => rw [hc] at hd; cases hd
    | some b =>
      rw [hc] at hd
      obtain rfl : enc b = d := Option.some.inj hd
      obtain ⟨σ2, hw, hgo, ht, he⟩ := hg x b (List.mem_of_getElem? hc) rd
      refine hgo H' c.2.1 _ ⟨hw, ?_⟩
      have hlen : (((l.take i).filter p).map f).length < 100000 := by
        have h1 := List.length_filter_le p (l.take i)
        have h2 : (l.take i).length ≤ l.length := by rw [List.length_take]; omega
        rw [List.length_map]
        omega
      refine cwd_turn (es := ((l.take i).filter p).map f) (p := p b) (y := f b) c hlen ht he (fun hp H2 c2 => ?_) (fun hp H2 c2 => ?_)
      · rw [filt_yes hc hp, List.map_append]
        exact c2
      · rw [filt_no hc hp]
        exact c2
  · have e : (l.take xs.length) = l := by rw [rs.len, List.length_map]; exact List.take_length
    rw [e] at c
    exact q Dl H' c.1 c.2.1 c.2.2
/-- over a list at a name -/
theorem el_lcL {α : Type} {l : List α} {enc : α → PyData} {tl : TE} {g : TG} {vs : List Nat} {a : Addr} (p : α → Bool) (f : α → PyData) (hl : Ev tl σ H (.ref a)) (hp : LAt H a (l.map enc)) (hz : l.length ≤ 40000)
    (hg : ∀ (x : V) (a : α) H1, Ex H H1 → a ∈ l → Rp H1 x (enc a) → ∃ σ2, wipe σ2 vs = wipe σ vs ∧ (∀ H2, Ex H1 H2 → ∀ Q : L2.St → Hp → Prop, Q σ2 H2 → g x (wipe σ vs) H2 Q) ∧ EvT t σ2 H1 (p a) ∧ (p a = true → ED te σ2 H1 (f a))) :
    EL (tLc (iList K tl) g t te vs) σ H ((l.filter p).map f) := fun H0 x0 Q q => hl H0 x0 _ fun H1 x1 =>
  ⟨a, rfl, (let ⟨xs, h1, _⟩ := hp.ex (x0.trans x1); ⟨xs, SqL.of h1⟩), lcL_core p f (hp.ex (x0.trans x1)) hz (fun x b hb r => hg x b H1 (x0.trans x1) hb r) fun p' H2 h1 h2 h3 => q p' H2 (fresh_back x1 h1) (x1.trans h2) h3⟩
/-- over a list made on the way -/
theorem el_lcN {α : Type} {l : List α} {enc : α → PyData} {tl : TE} {g : TG} {vs : List Nat} (p : α → Bool) (f : α → PyData) (hl : EL tl σ H (l.map enc)) (hz : l.length ≤ 40000)
    (hg : ∀ (x : V) (a : α) H1, Ex H H1 → a ∈ l → Rp H1 x (enc a) → ∃ σ2, wipe σ2 vs = wipe σ vs ∧ (∀ H2, Ex H1 H2 → ∀ Q : L2.St → Hp → Prop, Q σ2 H2 → g x (wipe σ vs) H2 Q) ∧ EvT t σ2 H1 (p a) ∧ (p a = true → ED te σ2 H1 (f a))) :
    EL (tLc (iList K tl) g t te vs) σ H ((l.filter p).map f) := fun H0 x0 Q q => hl H0 x0 _ fun a H1 ha x1 hp =>
  ⟨a, rfl, (let ⟨xs, h1, _⟩ := hp; ⟨xs, SqL.of h1⟩), lcL_core p f hp hz (fun x b hb r => hg x b H1 (x0.trans x1) hb r) fun p' H2 h1 h2 h3 => q p' H2 (fresh_back x1 h1) (x1.trans h2) h3⟩
/-- the target a name: what hg of these asks -/
theorem tg_name {j : Nat} {vs : List Nat} {x : V} {H1 : Hp} {b : Bool} {d : PyData} (hw : wipe ((wipe σ vs).set j (some x)) vs = wipe σ vs) (ht : EvT t ((wipe σ vs).set j (some x)) H1 b) (he : b = true → ED te ((wipe σ vs).set j (some x)) H1 d) :
    ∃ σ2, wipe σ2 vs = wipe σ vs ∧ (∀ H2, Ex H1 H2 → ∀ Q : L2.St → Hp → Prop, Q σ2 H2 → gName j x (wipe σ vs) H2 Q) ∧ EvT t σ2 H1 b ∧ (b = true → ED te σ2 H1 d) := ⟨_, hw, fun _ _ _ q => q, ht, he⟩
/-- a pair of names -/
theorem tg_pair {j k : Nat} {vs : List Nat} {x : V} {H1 : Hp} {b : Bool} {d d1 d2 : PyData} (r : Rp H1 x (.tuple [d1, d2])) (hw : ∀ y z, wipe (((wipe σ vs).set j (some y)).set k (some z)) vs = wipe σ vs)
    (h : ∀ y z, Rp H1 y d1 → Rp H1 z d2 → EvT t (((wipe σ vs).set j (some y)).set k (some z)) H1 b ∧ (b = true → ED te (((wipe σ vs).set j (some y)).set k (some z)) H1 d)) :
    ∃ σ2, wipe σ2 vs = wipe σ vs ∧ (∀ H2, Ex H1 H2 → ∀ Q : L2.St → Hp → Prop, Q σ2 H2 → gTup K 2 (gCons (gName j) (gCons (gName k) gNil)) x (wipe σ vs) H2 Q) ∧ EvT t σ2 H1 b ∧ (b = true → ED te σ2 H1 d) := by
  obtain ⟨a, xs, rfl, ha, rs⟩ := r.tupE
  obtain ⟨y, z, rfl, r1, r2⟩ := rs.e2
  exact ⟨_, hw y z, fun H2 e Q q => ⟨a, [y, z], rfl, SqR (e.rd ha), rfl, y, [z], rfl, z, [], rfl, rfl, q⟩, (h y z r1 r2).1, (h y z r1 r2).2⟩
/-- over range(n) -/
theorem el_lcR {ta : TA} {j : Nat} {vs : List Nat} {n : Nat} (p : Nat → Bool) (f : Nat → PyData) (h : EA ta σ H [.int (n : Int)]) (hn : n ≤ 40000) (hw : ∀ x, wipe ((wipe σ vs).set j (some x)) vs = wipe σ vs)
    (hg : ∀ (i : Nat) H1, Ex H H1 → i < n → EvT t ((wipe σ vs).set j (some (.int (i : Int)))) H1 (p i) ∧ (p i = true → ED te ((wipe σ vs).set j (some (.int (i : Int)))) H1 (f i))) :
    EL (tLc (iRng1 ta) (gName j) t te vs) σ H (((List.range n).filter p).map f) := fun H0 x0 Q q => h H0 x0 _ fun us H1 x1 r => by
  obtain ⟨v, rfl, r0⟩ := r.e1
  refine ⟨n, by rw [r0.intE], by omega, by omega, fun Dl hD => ?_⟩
  refine lc_range (lo := 0) (n := (n : Int).toNat) (fun i H' => Cwd H1 Dl ((((List.range n).take i).filter p).map f) H') ⟨.of hD, Ex.new hD, [], upd_same, .nil⟩ (fun i H' hi c => ?_) (fun H' c => ?_)
  · have e0 : (0 : Int) + (i : Int) = (i : Int) := Int.zero_add _
    have hin : i < n := by simpa using hi
    obtain ⟨ht, he⟩ := hg i H1 (x0.trans x1) hin
    show wipe ((wipe σ vs).set j (some (.int ((0 : Int) + (i : Int))))) vs = wipe σ vs ∧ t ((wipe σ vs).set j (some (.int ((0 : Int) + (i : Int))))) H' _
    rw [e0]
    refine ⟨hw _, ?_⟩
    have hd : (List.range n)[i]? = some i := by rw [List.getElem?_range hin]
    have hlen : ((((List.range n).take i).filter p).map f).length < 100000 := by
      have h1 := List.length_filter_le p ((List.range n).take i)
      have h2 : ((List.range n).take i).length ≤ n := by rw [List.length_take, List.length_range]; omega
      rw [List.length_map]
      omega
    refine cwd_turn (es := (((List.range n).take i).filter p).map f) (p := p i) (y := f i) c hlen ht he (fun hp H2 c2 => ?_) (fun hp H2 c2 => ?_)
    · rw [filt_yes hd hp, List.map_append]
      exact c2
    · rw [filt_no hd hp]
      exact c2
  · have e : ((List.range n).take (n : Int).toNat) = List.range n := by
      rw [Int.toNat_natCast]
      exact List.take_of_length_le (by simp)
    rw [e] at c
    exact q Dl H' (fresh_back x1 c.1) (x1.trans c.2.1) c.2.2
theorem el_lcR0 {ta : TA} {j : Nat} {vs : List Nat} {n : Nat} (f : Nat → PyData) (h : EA ta σ H [.int (n : Int)]) (hn : n ≤ 40000) (hw : ∀ x, wipe ((wipe σ vs).set j (some x)) vs = wipe σ vs)
    (hg : ∀ (i : Nat) H1, Ex H H1 → i < n → ED te ((wipe σ vs).set j (some (.int (i : Int)))) H1 (f i)) :
    EL (tLc (iRng1 ta) (gName j) tYes te vs) σ H ((List.range n).map f) := by
  have h := el_lcR (t := tYes) (te := te) (fun _ => true) f h hn hw fun i H1 e hi => ⟨et_yes, fun _ => hg i H1 e hi⟩
  have e : (List.range n).filter (fun _ => true) = List.range n := by simp
  rw [e] at h
  exact h

/-- list(range(n)) -/
theorem rgV_nat (n : Nat) : rgV 0 (n : Int) = ((List.range n).map fun i : Nat => (i : Int)).map V.int := by
  unfold rgV
  rw [List.map_map]
  have : ((n : Int) - 0).toNat = n := by omega
  rw [this]
  refine List.map_congr_left fun i _ => ?_
  simp
theorem el_rg1 {n : Nat} (h : ED ta σ H (.int (n : Int))) (hn : n ≤ 100000) : EL (tLstRg (tRg1 ta)) σ H (((List.range n).map fun i : Nat => (i : Int)).map PyData.int) := fun H1 x Q q =>
  h H1 x _ fun v H2 x2 r => ⟨n, r.intE, RgOk.of_le (by omega) (by omega) (by omega) (by omega), fun l hl => q l _ (fresh_back x2 (.of hl)) (x2.trans (Ex.new hl)) ⟨_, upd_same, by rw [rgV_nat]; exact RpA.ints _⟩⟩

/-! ### statements -/
variable {D : Ends} {tu tw tz : TS}
theorem sd_ret (h : ED te σ H d) (k : ∀ v H1, Ex H H1 → Rp H1 v d → D.rt v H1) : tRet te D σ H := h H (Ex.refl H) _ k
theorem sd_retL (h : EL te σ H ds) (k : ∀ p H1, Nw H p → Ex H H1 → LAt H1 p ds → D.rt (.ref p) H1) : tRet te D σ H := h H (Ex.refl H) _ k
theorem sd_asg {k : Nat} (h : ED te σ H d) (q : ∀ v H1, Ex H H1 → Rp H1 v d → D.nx (σ.set k (some v)) H1) : tAsg te (gName k) D σ H := h H (Ex.refl H) _ q
theorem sd_asgL {k : Nat} (h : EL te σ H ds) (q : ∀ p H1, Nw H p → Ex H H1 → LAt H1 p ds → D.nx (σ.set k (some (.ref p))) H1) : tAsg te (gName k) D σ H := h H (Ex.refl H) _ q
theorem qd_asg {k : Nat} (h : ED te σ H d) (q : ∀ v H1, Ex H H1 → Rp H1 v d → tz D (σ.set k (some v)) H1) : tSeq (tAsg te (gName k)) tz D σ H := h H (Ex.refl H) _ q
/-- for x in a tuple of data -/
theorem sd_forT {α : Type} {l : List α} {enc : α → PyData} {tl : TE} {g : TG} (h : ED tl σ H (.tuple (l.map enc))) (Pv : Hp → Nat → L2.St → Hp → Prop) (h0 : ∀ H1, Ex H H1 → Pv H1 0 σ H1) (hT : ∀ H1 i σ' H', Pv H1 i σ' H' → Tx H1 H')
    (hs : ∀ H1 i x a σ' H', Ex H H1 → l[i]? = some a → Rp H' x (enc a) → Pv H1 i σ' H' → g x σ' H' fun σ2 H2 => tu { D with nx := Pv H1 (i + 1), ct := Pv H1 (i + 1), bk := D.nx } σ2 H2) (hd : ∀ H1 σ' H', Ex H H1 → Pv H1 l.length σ' H' → D.nx σ' H') :
    tFor (iTup K tl) g tu D σ H := h H (Ex.refl H) _ fun v H1 e r => by
  obtain ⟨a, xs, rfl, ha, rs⟩ := r.tupE
  have hl : xs.length = l.length := by rw [rs.len, List.length_map]
  refine ⟨a, rfl, ⟨xs, SqR ha⟩, for_tup (K := K) (a := a) (xs := xs) (Pv H1) (h0 H1 e) (fun i σ' H' _ p => SqR (hT H1 i σ' H' p _ _ ha)) (fun i x σ' H' hi p => ?_) (fun σ' H' p => hd H1 σ' H' e (by rw [← hl]; exact p))⟩
  obtain ⟨d, hd, rd⟩ := rs.getV hi
  rw [List.getElem?_map] at hd
  cases hc : l[i]? with
  | none => rw [hc] at hd; cases hd
  | some b =>
    rw [hc] at hd
    obtain rfl : enc b = d := Option.some.inj hd
    exact hs H1 i x b σ' H' e hc (rd.up (hT H1 i σ' H' p)) p
theorem qd_forT {α : Type} {l : List α} {enc : α → PyData} {tl : TE} {g : TG} (h : ED tl σ H (.tuple (l.map enc))) (Pv : Hp → Nat → L2.St → Hp → Prop) (h0 : ∀ H1, Ex H H1 → Pv H1 0 σ H1) (hT : ∀ H1 i σ' H', Pv H1 i σ' H' → Tx H1 H')
    (hs : ∀ H1 i x a σ' H', Ex H H1 → l[i]? = some a → Rp H' x (enc a) → Pv H1 i σ' H' → g x σ' H' fun σ2 H2 => tu { D with nx := Pv H1 (i + 1), ct := Pv H1 (i + 1), bk := tz D } σ2 H2) (hd : ∀ H1 σ' H', Ex H H1 → Pv H1 l.length σ' H' → tz D σ' H') :
    tSeq (tFor (iTup K tl) g tu) tz D σ H := sd_forT (D := { D with nx := tz D }) h Pv h0 hT hs hd
/-- for i in range(n) -/
theorem sd_forR {ta : TA} {j n : Nat} (h : EA ta σ H [.int (n : Int)]) (hn : n ≤ 100000) (Pv : Nat → L2.St → Hp → Prop) (h0 : ∀ H1, Ex H H1 → Pv 0 σ H1)
    (hs : ∀ (i : Nat) σ' H', i < n → Pv i σ' H' → tu { D with nx := Pv (i + 1), ct := Pv (i + 1), bk := D.nx } (σ'.set j (some (.int (i : Int)))) H') (hd : ∀ σ' H', Pv n σ' H' → D.nx σ' H') : tFor (iRng1 ta) (gName j) tu D σ H :=
  h H (.refl H) _ fun vs G x r => by
    obtain ⟨v, rfl, r0⟩ := r.e1
    refine ⟨n, by rw [r0.intE], by omega, by omega, for_range (lo := 0) (n := (n : Int).toNat) Pv (h0 G x) (fun i σ' H' hi p => ?_) (fun σ' H' p => hd σ' H' (by rw [Int.toNat_natCast] at p; exact p))⟩
    have z : (0 : Int) + (i : Int) = (i : Int) := Int.zero_add _
    rw [z]
    exact hs i σ' H' (by omega) p
theorem qd_forR {ta : TA} {j n : Nat} (h : EA ta σ H [.int (n : Int)]) (hn : n ≤ 100000) (Pv : Nat → L2.St → Hp → Prop) (h0 : ∀ H1, Ex H H1 → Pv 0 σ H1)
    (hs : ∀ (i : Nat) σ' H', i < n → Pv i σ' H' → tu { D with nx := Pv (i + 1), ct := Pv (i + 1), bk := tz D } (σ'.set j (some (.int (i : Int)))) H') (hd : ∀ σ' H', Pv n σ' H' → tz D σ' H') : tSeq (tFor (iRng1 ta) (gName j) tu) tz D σ H :=
  sd_forR (D := { D with nx := tz D }) h hn Pv h0 hs hd
/-- all but the thing at p, the tables -/
def But (p : Addr) (H H' : Hp) : Prop := ∀ a o, a ≠ p → H a = some o → NoB o → H' a = some o
theorem But.at {p a : Addr} {o : HO} (b : But p H H') (h : H a = some o) (n : a ≠ p) (m : NoB o := by exact True.intro) : H' a = some o := b a o n h m
theorem But.lat {p l : Addr} (b : But p H H') (t : Tx H H') (h : LAt H l ds) (n : l ≠ p) : LAt H' l ds := by
  obtain ⟨vs, h1, h2⟩ := h
  exact ⟨vs, b.at h1 n, h2.up t⟩
theorem sp_app {H0 : Hp} {p : Addr} {P : PyData → Prop} (e0 : Ex H0 H) (h0 : Nw H0 p) (hp : LAt H p ds) (ha : Ev ta σ H (.ref p)) (h : ∀ H1, Ex H H1 → ∀ Q : VK, (∀ v d H2, Ex H1 H2 → Rp H2 v d → P d → Q v H2) → te σ H1 Q) (hz : ds.length < 100000)
    (k : ∀ H2 d, P d → Ex H0 H2 → LAt H2 p (ds ++ [d]) → Tx H H2 → But p H H2 → D.nx σ H2) :
    tDrop (tBM K "list" rAppend ta (tCons te tNil)) D σ H := ha H (.refl H) _ fun H1 e1 => by
  obtain ⟨vs, h1, r1⟩ := hp
  refine ⟨.inl ⟨rfl, vs, SqL.of (e1.at h1)⟩, h H1 e1 _ fun v d H2 e2 r pd => ⟨p, vs, v, rfl, rfl, e2.at (e1.at h1), sz_lt (by rw [r1.len]; exact hz), ?_⟩⟩
  have e12 := e1.trans e2
  have t : Tx H2 (upd H2 p (.lst (vs ++ [v]))) := Tx.upd (e12.at h1) True.intro
  refine k _ d pd (Ex.mut (e0.trans e12) h0 (e12.at h1)) ⟨_, upd_same, ((r1.ex e12).append (.one r)).up t⟩ ((Tx.of e12).trans t) fun a o n q m => ?_
  rw [upd_ne n]
  exact e12.at q m
/-- l.append(e), l a list at p that H0 does not know -/
theorem sd_app {H0 : Hp} {p : Addr} (e0 : Ex H0 H) (h0 : Nw H0 p) (hp : LAt H p ds) (ha : Ev ta σ H (.ref p)) (h : ED te σ H d) (hz : ds.length < 100000)
    (k : ∀ H2, Ex H0 H2 → LAt H2 p (ds ++ [d]) → Tx H H2 → But p H H2 → D.nx σ H2) : tDrop (tBM K "list" rAppend ta (tCons te tNil)) D σ H :=
  sp_app (P := fun d' => d' = d) e0 h0 hp ha (fun H1 x Q q => h H1 x Q fun v H2 x2 r => q v d H2 x2 r rfl) hz fun H2 d' e a b c f => by
    subst e
    exact k H2 a b c f
theorem qd_app {H0 : Hp} {p : Addr} (e0 : Ex H0 H) (h0 : Nw H0 p) (hp : LAt H p ds) (ha : Ev ta σ H (.ref p)) (h : ED te σ H d) (hz : ds.length < 100000)
    (k : ∀ H2, Ex H0 H2 → LAt H2 p (ds ++ [d]) → Tx H H2 → But p H H2 → tz D σ H2) : tSeq (tDrop (tBM K "list" rAppend ta (tCons te tNil))) tz D σ H := sd_app (D := { D with nx := tz D }) e0 h0 hp ha h hz k
theorem qp_app {H0 : Hp} {p : Addr} {P : PyData → Prop} (e0 : Ex H0 H) (h0 : Nw H0 p) (hp : LAt H p ds) (ha : Ev ta σ H (.ref p)) (h : ∀ H1, Ex H H1 → ∀ Q : VK, (∀ v d H2, Ex H1 H2 → Rp H2 v d → P d → Q v H2) → te σ H1 Q) (hz : ds.length < 100000)
    (k : ∀ H2 d, P d → Ex H0 H2 → LAt H2 p (ds ++ [d]) → Tx H H2 → But p H H2 → tz D σ H2) : tSeq (tDrop (tBM K "list" rAppend ta (tCons te tNil))) tz D σ H := sp_app (D := { D with nx := tz D }) e0 h0 hp ha h hz k
theorem qd_asgL {k : Nat} (h : EL te σ H ds) (q : ∀ p H1, Nw H p → Ex H H1 → LAt H1 p ds → tz D (σ.set k (some (.ref p))) H1) : tSeq (tAsg te (gName k)) tz D σ H := h H (Ex.refl H) _ q
end
end Wd

namespace Wd
open PySem PySem.Spec PyProof.Rows L2
/-! ### defs of the text, the built-ins' names -/
structure Bt (mg : Str → Option Value) : Prop where
  len : mg "len" = none
  range : mg "range" = none
  sum : mg "sum" = none
  tuple : mg "tuple" = none
  list : mg "list" = none
  int : mg "int" = none
  min : mg "min" = none
  max : mg "max" = none
  sorted : mg "sorted" = none
  enumerate : mg "enumerate" = none
  isinstance : mg "isinstance" = none
  all : mg "all" = none
  set : mg "set" = none
  bool : mg "bool" = none
structure DefAt (K : PySem.W.Frag) (mg : Str → Option Value) (x : Str) (st : Stmt) (ps : List Str) : Prop where
  ex : ∃ (f : Addr) (fd : FuncData), Fun K x x st f fd ∧ mg x = some (.ref f) ∧ Binds K fd ps []
section
variable {P : Program} {w : World} {K : PySem.W.Frag} {mg : Str → Option Value} {base : Heap}
theorem cal_ok {x : Str} {st : Stmt} {N ps : List Str} {k : Nat} {sp : Sp} (F : DefAt K mg x st ps) (S : FnScope N ps (defScope st)) (len : ∀ vs H Q E, sp vs H Q E → vs.length = ps.length)
    (hbody : ∀ (f : Addr) (cdv : Value) (A : Around) (outer : List Env) (s : Shared) (H : Hp) (vs : List V) (Q : VK) (E : XK), Room k (A.deeper (envOfC x (defScope st) s.heap.objs.size f cdv)) → sp vs H Q E →
      ∃ t, PSs (cxOf CX0 P w K mg base N x (defScope st) f cdv A outer s H E).nox (defBody st) t ∧ t { nx := fun _ H' => Q .non H', rt := Q } (start N vs) H) : C8.Cal P w K mg base (k + 1) x sp [] := by
  obtain ⟨f, fd, G, hm, b⟩ := F.ex
  exact ⟨f, fd, ps, [], G.ok S len fun cdv A outer s H vs Q E hr h => hbody f cdv A outer s H vs Q E hr h, hm, G.kp, b, .nil⟩
end
/-- called with data of which pre holds it hands back some data of which post holds, and changes nothing -/
def SpP [Tbl] (pre : List PyData → Prop) (post : List PyData → PyData → Prop) : Sp := fun vs H Q _ => ∃ ds, RpA H vs ds ∧ pre ds ∧ ∀ v d H', Ex H H' → Rp H' v d → post ds d → Q v H'
def EP [Tbl] (te : TE) (σ : L2.St) (H : Hp) (P : PyData → Prop) : Prop := ∀ H1, Ex H H1 → ∀ Q : VK, (∀ v d H2, Ex H1 H2 → Rp H2 v d → P d → Q v H2) → te σ H1 Q
section
variable [Tbl] {K : PySem.W.Frag} {σ : L2.St} {H H' : Hp} {ta tb te tx : TE} {t u : TT} {ds : List PyData} {P : PyData → Prop} {D : Ends} {tz : TS}
theorem ep_call {pre : List PyData → Prop} {post : List PyData → PyData → Prop} {E : XK} {ta : TA} (h : EA ta σ H ds) (hr : pre ds) : EP (tCall (SpP pre post) [] E ta) σ H (post ds) := fun H1 x Q q =>
  h H1 x _ fun vs H2 x2 r => ⟨ds, by rw [List.append_nil]; exact r, hr, fun v d H3 x3 s p => q v d H3 (x2.trans x3) s p⟩
theorem ep_asg {k : Nat} (h : EP te σ H P) (q : ∀ v d H1, Ex H H1 → Rp H1 v d → P d → D.nx (σ.set k (some v)) H1) : tAsg te (gName k) D σ H := h H (Ex.refl H) _ q
theorem qp_asg {k : Nat} (h : EP te σ H P) (q : ∀ v d H1, Ex H H1 → Rp H1 v d → P d → tz D (σ.set k (some v)) H1) : tSeq (tAsg te (gName k)) tz D σ H := h H (Ex.refl H) _ q
end
theorem SpR.len [Tbl] {R : List PyData → PyData → Prop} {vs : List V} {H : Hp} {Q : VK} {E : XK} {n : Nat} (h : SpR R vs H Q E) (hn : ∀ ds d, R ds d → ds.length = n) : vs.length = n := by
  obtain ⟨ds, d, r, q, _⟩ := h
  rw [r.len]
  exact hn _ _ q
theorem SpP.len [Tbl] {pre : List PyData → Prop} {post : List PyData → PyData → Prop} {vs : List V} {H : Hp} {Q : VK} {E : XK} {n : Nat} (h : SpP pre post vs H Q E) (hn : ∀ ds, pre ds → ds.length = n) : vs.length = n := by
  obtain ⟨ds, r, q, _⟩ := h
  rw [r.len]
  exact hn _ q
end Wd

namespace Wd
open PySem PySem.Spec PyProof.Rows L2
theorem map_erase : ∀ (l : List Int) (k : Nat), (l.map V.int).eraseIdx k = (l.eraseIdx k).map V.int
  | [], _ => rfl
  | _ :: _, 0 => rfl
  | x :: l, k + 1 => by
    show V.int x :: (l.map V.int).eraseIdx k = V.int x :: (l.eraseIdx k).map V.int
    rw [map_erase l k]
theorem seqIndex_nat {r : Int} {n : Nat} (h0 : 0 ≤ r) (h1 : r < n) : seqIndex? r n = some r.toNat := by
  unfold seqIndex?
  simp only [show ¬ r < 0 by omega, if_false]
  simp [h0, h1]
theorem perm_pop {out ls l0 : List Int} {k : Nat} {y : Int} (h : (out ++ ls).Perm l0) (hk : ls[k]? = some y) : ((out ++ [y]) ++ ls.eraseIdx k).Perm l0 := by
  refine List.Perm.trans ?_ h
  rw [List.append_assoc]
  refine List.Perm.append_left out ?_
  obtain ⟨hlt, he⟩ := List.getElem?_eq_some_iff.mp hk
  have e : (ls.take k ++ [y] ++ ls.drop (k + 1)) = ls := by
    rw [← he]
    simp
  rw [List.eraseIdx_eq_take_drop_succ]
  refine List.Perm.trans ?_ (List.Perm.of_eq e)
  rw [List.append_assoc]
  exact (List.perm_middle (l₁ := ls.take k) (l₂ := ls.drop (k + 1)) (a := y)).symm
section
variable [Tbl] {K : PySem.W.Frag} {σ : L2.St} {H H0 : Hp} {ta te tl : TE}
/-- [l.pop(e) for k in range(n)], l a list of n ints at p, all of which are taken out in some order -/
theorem pop_all {ta : TA} {p : Addr} {n j x1 : Nat} {vs : List Nat} {ls : List Int} {Q : VK} (e0 : Ex H0 H) (hp0 : Nw H0 p) (hp : H p = some (.lst (ls.map V.int))) (hls : ls.length = n) (hn : n ≤ 1000) (ha : EA ta σ H [.int (n : Int)])
    (hw : ∀ x, wipe ((wipe σ vs).set j (some x)) vs = wipe σ vs) (hl : ∀ x, ((wipe σ vs).set j (some x))[x1]? = some (some (.ref p)))
    (ht : ∀ (i : Nat) H', Ex H0 H' → i < n → ∃ r : Int, 0 ≤ r ∧ r < (n : Int) - (i : Int) ∧ ED te ((wipe σ vs).set j (some (.int (i : Int)))) H' (.int r))
    (q : ∀ D H' (out : List Int), Nw H D → Ex H0 H' → H' D = some (.lst (out.map V.int)) → out.Perm ls → Q (.ref D) H') :
    tLc (iRng1 ta) (gName j) tYes (tBM K "list" rPopAt (tVar x1) (tCons te tNil)) vs σ H Q := ha H (Ex.refl H) _ fun us H1 e1 r => by
  obtain ⟨v, rfl, r0⟩ := r.e1
  refine ⟨n, by rw [r0.intE], by omega, by omega, fun Dl hD => ?_⟩
  have hpD : p ≠ Dl := ne_of_none (e1.at hp) hD
  have hD0 : Nw H0 Dl := fresh_back (e0.trans e1) (.of hD)
  refine lc_range (lo := 0) (n := (n : Int).toNat) (fun i H' => ∃ out rest : List Int, Ex H0 H' ∧ H' Dl = some (.lst (out.map V.int)) ∧ H' p = some (.lst (rest.map V.int)) ∧ (out ++ rest).Perm ls ∧ out.length = i) ?_ ?_ ?_
  · exact ⟨[], ls, (e0.trans e1).trans (Ex.new hD), upd_same, by rw [upd_ne hpD]; exact e1.at hp, List.Perm.refl _, rfl⟩
  · rintro i H' hi ⟨out, rest, k1, k2, k3, k4, k5⟩
    have hin : i < n := by simpa using hi
    have hrl : rest.length = n - i := by
      have := k4.length_eq
      rw [List.length_append] at this
      omega
    have e2 : (0 : Int) + (i : Int) = (i : Int) := Int.zero_add _
    show wipe ((wipe σ vs).set j (some (.int ((0 : Int) + (i : Int))))) vs = wipe σ vs ∧ tYes ((wipe σ vs).set j (some (.int ((0 : Int) + (i : Int))))) H' _
    rw [e2]
    refine ⟨hw _, ?_⟩
    unfold tYes
    refine iteT ?_
    obtain ⟨r, hr0, hr1, he⟩ := ht i H' k1 hin
    refine ⟨.ref p, hl _, .inl ⟨rfl, _, SqL.of k3⟩, ?_⟩
    refine he H' (Ex.refl H') _ fun v H2 x2 rv => ?_
    have hrn : r.toNat < rest.length := by omega
    have hy : rest[r.toNat]? = some rest[r.toNat] := List.getElem?_eq_getElem hrn
    refine ⟨p, rest.map V.int, r, r.toNat, .int rest[r.toNat], rfl, by rw [rv.intE], x2.at k3, by omega, by omega, by rw [List.length_map]; exact seqIndex_nat hr0 (by omega), by rw [List.getElem?_map, hy]; rfl, ?_⟩
    refine ⟨out.map V.int, by rw [upd_ne (Ne.symm hpD)]; exact x2.at k2, by rw [List.length_map]; exact sz_lt (by omega), ?_⟩
    refine ⟨out ++ [rest[r.toNat]], rest.eraseIdx r.toNat, Ex.mut (Ex.mut (k1.trans x2) hp0 (x2.at k3)) hD0 (by rw [upd_ne (Ne.symm hpD)]; exact x2.at k2), by rw [upd_same, List.map_append]; rfl, ?_, perm_pop k4 hy, by simp [k5]⟩
    rw [upd_ne hpD, upd_same]
    congr 2
    exact map_erase _ _
  · rintro H' ⟨out, rest, k1, k2, k3, k4, k5⟩
    have hre : rest = [] := by
      have := k4.length_eq
      rw [List.length_append, k5, hls] at this
      rw [Int.toNat_natCast] at this
      exact List.eq_nil_of_length_eq_zero (by omega)
    rw [hre, List.append_nil] at k4
    exact q Dl H' out (fresh_back e1 (.of hD)) k1 k2 k4
end
end Wd

namespace Wd
open PySem PySem.Spec PyProof.Rows L2
/-! ### the rules with the written part K told (within a comprehension X's own K would hang on the block) -/
section
variable {X : Cx} {K : PySem.W.Frag}
theorem ix_tupK (h : X.K = K) : IxR X (rIxT K) := by subst h; exact ix_tup
theorem ix_listK (h : X.K = K) : IxR X (rIxL K) := by subst h; exact ix_list
theorem lenK (h : X.K = K) : CallR X (.builtin "len") (rLen K) := by subst h; exact call_len_seq
theorem sumK (h : X.K = K) (hc : X.calm = true) : CallR X (.builtin "sum") (rSum K) := by subst h; exact cr_sum hc
theorem allK (h : X.K = K) (hc : X.calm = true) : CallR X (.builtin "all") (rAll K) := by subst h; exact cr_all hc
theorem minK (h : X.K = K) (hc : X.calm = true) : CallR X (.builtin "min") (rMin K) := by subst h; exact cr_min hc
theorem maxK (h : X.K = K) (hc : X.calm = true) : CallR X (.builtin "max") (rMax K) := by subst h; exact cr_max hc
theorem tupleK (h : X.K = K) : CallR X (.type "tuple") (rTupOf K) := by subst h; exact call_tuple_of
theorem listK (h : X.K = K) : CallR X (.type "list") (rLstOf K) := by subst h; exact call_list_of
theorem isiK (h : X.K = K) : CallR X (.builtin "isinstance") (rIsi K) := by subst h; exact call_isi
theorem inK (h : X.K = K) : OpR X (compareOp .In) (rIn K false) := by subst h; exact op_in_seq
theorem notInK (h : X.K = K) : OpR X (compareOp .NotIn) (rIn K true) := by subst h; exact op_notIn_seq
theorem eqK (h : X.K = K) (hu : X.A.units + 64 < cLine) : OpR X (compareOp .Eq) (rEqD K) := by subst h; exact op_eqD hu
theorem neK (h : X.K = K) (hu : X.A.units + 64 < cLine) : OpR X (compareOp .NotEq) (rNeD K) := by subst h; exact op_neD hu
theorem catK (h : X.K = K) : OpR X (binaryOp .Add) (rCatA K) := by subst h; exact op_catA
theorem slK (h : X.K = K) : SlR X (rSlA K) := by subst h; exact sl_tupA
theorem pi_tupK {tg l : Expr} {tl : TE} (h : X.K = K) (hl : PE X l tl) : PI X tg l (iTup K tl) := by subst h; exact pi_tup hl
theorem pi_listK {tg l : Expr} {tl : TE} (h : X.K = K) (hl : PE X l tl) : PI X tg l (iList K tl) := by subst h; exact pi_list hl
theorem pg_tupK {pos : Pos} {es : List Expr} {k : Nat} {t : TGs} {n : Nat} (h : X.K = K) (hc : X.calm = true) (hg : PGs X es t) (hn : (assignEach es X.env).length = n := by rfl) (hst : (assignEach es X.env).findIdx? (·.1) = none := by rfl) : PG X (.Tuple es k pos) (gTup K n t) := by
  subst h; exact pg_tup hc hg hn hst
theorem pe_bmK {T : String} {r : V → List V → Hp → VK → Prop} {id : String} {name : Str} {o e : Expr} {es : List Expr} {apos cpos : Pos} {to : TE} {t : TA} (h : X.K = K) (pa : PlainAttrs T) (slot : Slot T name id) (hty : typeOf (.builtin id) = pure (.type "method_descriptor")) (hm : MtR X id r) (ho : PE X o to) (ha : PA X (e :: es) t)
    (hbase : attributeBase o name X.env (eval o X.env) = eval o X.env := by rfl)
    (hfew : ((backTo cpos (starEach (e :: es) X.env)).all (fun x => !x.1) && (backToKw cpos (keywordEach [] X.env)).all (fun x => x.1.isSome)
      && decide ((e :: es).length + ([] : List Keyword).length + (if ([] : List Keyword).isEmpty then 0 else 1) < 30)) = true := by rfl)
    (hline : (apos.endLine == cpos.line) = true := by rfl) (hs : starEach (e :: es) X.env = (false, eval e X.env) :: starEach es X.env := by rfl) (hplain : (backTo cpos (starEach es X.env)).any (·.1) = false := by rfl) :
    PE X (.Call (.Attribute o name apos) (e :: es) [] cpos) (tBM K T r to t) := by subst h; exact pe_bm pa slot hty hm ho ha hbase hfew hline hs hplain
end
end Wd

namespace Wd
open PySem PySem.Spec PyProof.Rows L2
/-! ### the end -/
section
variable {P : Program} {w : World} {K : PySem.W.Frag} {mg : Str → Option Value} {base : Heap}
theorem bt_mk {h : Heap} (X : K.In h) (G : h.Ns mainGlobals mg)
    (a1 : PySem.W.nsIn K mainGlobals "len" = some none) (a2 : PySem.W.nsIn K mainGlobals "range" = some none) (a3 : PySem.W.nsIn K mainGlobals "sum" = some none) (a4 : PySem.W.nsIn K mainGlobals "tuple" = some none)
    (a5 : PySem.W.nsIn K mainGlobals "list" = some none) (a6 : PySem.W.nsIn K mainGlobals "int" = some none) (a7 : PySem.W.nsIn K mainGlobals "min" = some none) (a8 : PySem.W.nsIn K mainGlobals "max" = some none)
    (a9 : PySem.W.nsIn K mainGlobals "sorted" = some none) (a10 : PySem.W.nsIn K mainGlobals "enumerate" = some none) (a11 : PySem.W.nsIn K mainGlobals "isinstance" = some none) (a12 : PySem.W.nsIn K mainGlobals "all" = some none)
    (a13 : PySem.W.nsIn K mainGlobals "set" = some none) (a14 : PySem.W.nsIn K mainGlobals "bool" = some none) : Bt mg :=
  have n {x : Str} (a : PySem.W.nsIn K mainGlobals x = some none) : mg x = none := PySem.W.mg_none_of X G a
  ⟨n a1, n a2, n a3, n a4, n a5, n a6, n a7, n a8, n a9, n a10, n a11, n a12, n a13, n a14⟩
theorem def_mk {h : Heap} {x : Str} {st : Stmt} {ps : List Str} {f : Addr} {oc : Value} {od an : Option Addr} {osl : Array (Option Value)} {kV doc pm cdv ct : Value} (X : K.In h) (G : h.Ns mainGlobals mg)
    (a : PySem.W.nsIn K mainGlobals x = some (some (.ref f))) (l : K.lookup f = some ⟨oc, od, .func (PySem.W.fnOf x x (defArgs st) (defBody st) (defScope st) .none kV doc pm an cdv ct), osl⟩) (c : PySem.W.codeIn K cdv x = true) (k : PySem.W.keepIn K (.ref f) = true)
    (b : ∀ (kV doc pm : Value) (an : Option Addr) (cdv ct : Value) (us : List Value), us.length = ps.length → bindArgs (PySem.W.fnOf x x (defArgs st) (defBody st) (defScope st) .none kV doc pm an cdv ct) ⟨us, []⟩ = pure (ps.zip us)) : DefAt K mg x st ps :=
  ⟨f, _, fun_mk l c k, PySem.W.mg_of X G a, (fun_mk l c k).binds b⟩
end
end Wd
/-! The mirrors: what the defs reckon, on plain lists. -/
namespace Wm
open PySem L2 Wd
/-- a ballot, a box -/
def dB (b : List Int) : PyData := .tuple (b.map PyData.int)
def dBox (n : Nat) (bs : List (List Int)) : PyData := .tuple [.int (n : Int), .tuple (bs.map dB)]
structure Wf (n : Nat) (bs : List (List Int)) : Prop where
  len : bs.length ≤ 100
  many : n ≤ 20
  each : ∀ b ∈ bs, b.length = n
def sgn (x y : Int) : Int := (if decide (x < y) then 1 else 0) - (if decide (y < x) then 1 else 0)
def sgnAt (b : List Int) (i j : Nat) : Int := sgn (b.getD i 0) (b.getD j 0)
def lead (bs : List (List Int)) (i j : Nat) : Int := (bs.map fun b => sgnAt b i j).sum
def R_sign (ds : List PyData) (d : PyData) : Prop := ∃ (b : List Int) (i j : Nat), ds = [dB b, .int (i : Int), .int (j : Int)] ∧ i < b.length ∧ j < b.length ∧ d = .int (sgnAt b i j)
def R_lead (ds : List PyData) (d : PyData) : Prop := ∃ (n : Nat) (bs : List (List Int)) (i j : Nat), ds = [dBox n bs, .int (i : Int), .int (j : Int)] ∧ Wf n bs ∧ i < n ∧ j < n ∧ d = .int (lead bs i j)
def R_beats (ds : List PyData) (d : PyData) : Prop := ∃ (n : Nat) (bs : List (List Int)) (i j : Nat), ds = [dBox n bs, .int (i : Int), .int (j : Int)] ∧ Wf n bs ∧ i < n ∧ j < n ∧ d = .bool (decide (0 < lead bs i j))
def dRow (n : Nat) (bs : List (List Int)) (i : Nat) : PyData := .tuple ((List.range n).map fun j => .int (lead bs i j))
def dTab (n : Nat) (bs : List (List Int)) : PyData := .tuple ((List.range n).map fun i => dRow n bs i)
def R_table (ds : List PyData) (d : PyData) : Prop := ∃ (n : Nat) (bs : List (List Int)), ds = [dBox n bs] ∧ Wf n bs ∧ d = dTab n bs
theorem dB_get {b : List Int} {i : Nat} (h : i < b.length) : (b.map PyData.int)[i]? = some (.int (b.getD i 0)) := by
  rw [List.getElem?_map, List.getElem?_eq_getElem h]
  simp [h]
/-! ### the law's own defs -/
def spCell (K : PySem.W.Frag) : Sp := fun vs H Q _ => ∃ (a : Addr) (ns : List Int) (k : Nat), vs = [.ref a, .int (k : Int)] ∧ SqL K H a (ns.map V.int) ∧ Q (.int (ns.getD k 0)) H
def R_mix (ds : List PyData) (d : PyData) : Prop := ∃ c p m : Int, ds = [.int c, .int p, .int m] ∧ 0 < p ∧ 0 < m ∧ d = .int (c * 48271 % p % m)
def Pl (b : List Int) : Prop := ∀ x ∈ b, 0 ≤ x ∧ x ≤ 99
def pre_ballot (ds : List PyData) : Prop := ∃ (c : Int) (n w : Nat), ds = [.int c, .int (n : Int), .int (w : Int)] ∧ 1 ≤ n ∧ n ≤ 20 ∧ w < 3
def post_ballot (ds : List PyData) (d : PyData) : Prop := ∀ (c : Int) (n w : Nat), ds = [.int c, .int (n : Int), .int (w : Int)] → ∃ b : List Int, d = dB b ∧ b.length = n ∧ Pl b
/-- a box as the law makes it -/
structure Box (most n : Nat) (bs : List (List Int)) : Prop where
  one : 1 ≤ n
  le : n ≤ most
  len : bs.length ≤ 28
  each : ∀ b ∈ bs, b.length = n ∧ Pl b
def spBox [Tbl] (K : PySem.W.Frag) : Sp := fun vs H Q _ => ∃ (a : Addr) (ns : List Int) (most : Nat), vs = [.ref a, .int (most : Int)] ∧ SqL K H a (ns.map V.int) ∧ 1 ≤ most ∧ most ≤ 20 ∧
  ∀ v H' n bs, Ex H H' → Box most n bs → Rp H' v (dBox n bs) → Q v H'
def R_llead (ds : List PyData) (d : PyData) : Prop := R_lead ds d
def R_whole (ds : List PyData) (d : PyData) : Prop := ∃ i : Int, ds = [.int i] ∧ d = .bool true
/-- the law's promise -/
def spLaw (K : PySem.W.Frag) : Sp := fun vs H Q _ => ∃ (a : Addr) (ns : List Int), vs = [.ref a] ∧ SqL K H a (ns.map V.int) ∧ ns.length ≤ 63 ∧ (∀ z ∈ ns, Builtin.Int.intBits z ≤ 1048576) ∧ ∀ H', Q (.bl true) H'
theorem Box.wf {most n : Nat} {bs : List (List Int)} (h : Box most n bs) (hm : most ≤ 20) : Wf n bs := ⟨by have := h.len; omega, by have := h.le; omega, fun b hb => (h.each b hb).1⟩
/-- data without texts, dicts, at most k deep -/
structure Sh (k : Nat) (d : PyData) : Prop where
  lay : d.canLay0 = true
  dep : d.depth ≤ k
theorem Sh.int (k : Nat) (i : Int) : Sh k (.int i) := ⟨by simp [PyData.canLay0], by simp [PyData.depth]⟩
theorem Sh.non (k : Nat) : Sh k .none := ⟨by simp [PyData.canLay0], by simp [PyData.depth]⟩
theorem Sh.bool (k : Nat) (b : Bool) : Sh k (.bool b) := ⟨by simp [PyData.canLay0], by simp [PyData.depth]⟩
theorem lay_all : ∀ {ds : List PyData}, (∀ d ∈ ds, d.canLay0 = true) → PyData.canLayAll0 ds = true
  | [], _ => by simp [PyData.canLayAll0]
  | d :: ds, h => by
    simp only [PyData.canLayAll0, Bool.and_eq_true]
    exact ⟨h d List.mem_cons_self, lay_all fun x hx => h x (List.mem_cons_of_mem _ hx)⟩
theorem dep_all {k : Nat} : ∀ {ds : List PyData}, (∀ d ∈ ds, d.depth ≤ k) → PyData.depthAll ds ≤ k
  | [], _ => by simp [PyData.depthAll]
  | d :: ds, h => by
    have h1 := h d List.mem_cons_self
    have h2 := dep_all (k := k) (ds := ds) fun x hx => h x (List.mem_cons_of_mem _ hx)
    simp only [PyData.depthAll]
    omega
theorem Sh.tup {k : Nat} {ds : List PyData} (h : ∀ d ∈ ds, Sh k d) : Sh (k + 1) (.tuple ds) :=
  ⟨by simp only [PyData.canLay0]; exact lay_all fun d hd => (h d hd).lay, by simp only [PyData.depth]; exact Nat.succ_le_succ (dep_all fun d hd => (h d hd).dep)⟩
theorem Sh.lst {k : Nat} {ds : List PyData} (h : ∀ d ∈ ds, Sh k d) : Sh (k + 1) (.list ds) :=
  ⟨by simp only [PyData.canLay0]; exact lay_all fun d hd => (h d hd).lay, by simp only [PyData.depth]; exact Nat.succ_le_succ (dep_all fun d hd => (h d hd).dep)⟩
theorem Sh.mono {j k : Nat} {d : PyData} (h : Sh j d) (e : j ≤ k) : Sh k d := ⟨h.lay, Nat.le_trans h.dep e⟩
theorem Sh.ok {k : Nat} {d : PyData} (h : Sh k d) (e : k ≤ 64 := by decide) : SeqAt.shaped d = true := by
  show (d.canLay0 && decide (d.depth ≤ 64)) = true
  rw [Bool.and_eq_true]
  exact ⟨h.lay, decide_eq_true (Nat.le_trans h.dep e)⟩
theorem Sh.refl {k : Nat} {d : PyData} (h : Sh k d) : PyData.eqv d d = true := SeqAt.eqv_refl d h.lay
theorem sh_dB (b : List Int) : Sh 1 (dB b) := Sh.tup fun d hd => by
  obtain ⟨i, _, rfl⟩ := List.mem_map.mp hd
  exact Sh.int 0 i
theorem sh_dBox (n : Nat) (bs : List (List Int)) : Sh 3 (dBox n bs) := Sh.tup fun d hd => by
  simp only [List.mem_cons, List.not_mem_nil, or_false] at hd
  rcases hd with rfl | rfl
  · exact Sh.int 2 _
  · exact Sh.tup fun d hd => by
      obtain ⟨b, _, rfl⟩ := List.mem_map.mp hd
      exact sh_dB b
theorem sh_dTab (n : Nat) (bs : List (List Int)) : Sh 2 (dTab n bs) := Sh.tup fun d hd => by
  obtain ⟨i, _, rfl⟩ := List.mem_map.mp hd
  exact Sh.tup fun d hd => by
    obtain ⟨j, _, rfl⟩ := List.mem_map.mp hd
    exact Sh.int 0 _
end Wm
/-! max(list, key=lambda x: ..), the lambda with one parameter, what it captures in cells. -/
namespace Wk
open PySem PySem.Spec PyProof.Rows L2 Wd LamX

/-- the names of a lambda: its one parameter x, captured ones, globals -/
structure Lam1 (sc scope : Scope) (x : Str) : Prop where
  kind : scope.kind = .function
  co : scope.isCoroutine = false
  gen : scope.isGenerator = false
  par : scope.names.lookup x = some .local
  own : ∀ y ∈ scope.names, y.2 = .local → y.1 = x
  nocell : ∀ y ∈ scope.names, y.2 ≠ .cell
  free : ∀ y ∈ scope.names, y.2 = .free → sc.names.lookup y.1 = some .cell ∨ sc.names.lookup y.1 = some .free
def lam1C (sc scope : Scope) (x : Str) : Bool :=
  decide (scope.kind = .function) && (!scope.isCoroutine && (!scope.isGenerator && (decide (scope.names.lookup x = some .local) &&
    scope.names.all fun y => (!decide (y.2 = .local) || decide (y.1 = x)) && (!decide (y.2 = .cell) && (!decide (y.2 = .free) || (decide (sc.names.lookup y.1 = some .cell) || decide (sc.names.lookup y.1 = some .free)))))))
theorem lam1_by {sc scope : Scope} {x : Str} (h : lam1C sc scope x = true) : Lam1 sc scope x := by
  unfold lam1C at h
  simp only [Bool.and_eq_true, Bool.or_eq_true, Bool.not_eq_true', decide_eq_true_eq, decide_eq_false_iff_not, List.all_eq_true] at h
  obtain ⟨k1, k2, k3, k4, k5⟩ := h
  refine ⟨k1, k2, k3, k4, fun y hy e => ?_, fun y hy => (k5 y hy).2.1, fun y hy e => ?_⟩
  · rcases (k5 y hy).1 with z | z
    · exact absurd e z
    · exact z
  · rcases (k5 y hy).2.2 with z | z
    · exact absurd e z
    · exact z
section
variable {X : Cx} {pins : List (Addr × Obj)} {σ : L2.St} {H : Hp} {s : Shared}
theorem Lam1.has {scope : Scope} {x : Str} (L : Lam1 X.env.scope scope x) (ok : X.Ok) : ∀ y ∈ scope.names, y.2 = .free → ∃ c, X.env.cells.lookup y.1 = some c :=
  fun y hy e => (L.free y hy e).elim (fun k => ok.has _ (.inl k)) fun k => ok.has _ (.inr k)
/-- the lambda's frame, its parameter bound -/
theorem enter1 {A : Around} {E : XK} {scope : Scope} {x : Str} {i : Nat} {v : V} {u : Value} {f c' : Addr} {h₁ : Heap} {tk : Nat} (I : Inv X pins σ H s) (L : Lam1 X.env.scope scope x) (hN : X.N.Nodup) (hi : X.N[i]? = some x) (r : RelV v u)
    (fr : A.frames = some X.stack) (hd : A.handled = none) (hns : h₁.Ns s.heap.objs.size fun y => ([(x, u)] : List (Str × Value)).reverse.lookup y) (kp : ∀ b o, s.heap.get? b = some o → h₁.get? b = some o) :
    Inv (lamCx X A X.stack s H E scope f c').nox [] (σ.set i (some v)) H { s with heap := h₁, toks := tk } := by
  have e0 := I.env0
  have back : ∀ {y c}, (cloFrom X.env.cells scope.names []).lookup y = some c → X.env.cells.lookup y = some c := fun {y c} e => by
    rcases cloFrom_mem (PySem.mem_of_lookup e) with z | ⟨z1, z2⟩
    · cases z
    · obtain ⟨c1, k⟩ := L.has I.ok _ z1 rfl
      have k : X.env.cells.lookup y = some c1 := k
      rw [k] at z2
      have z3 : c = c1 := z2
      rw [z3]
      exact k
  have forth : ∀ {y}, scope.names.lookup y = some .free → ∃ c, (cloFrom X.env.cells scope.names []).lookup y = some c := fun {y} k =>
    mem_lookup (cloFrom_has (cells := X.env.cells) (acc := []) (PySem.mem_of_lookup k))
  have none_in : ∀ b : Addr, b ∈ (lamCx X A X.stack s H E scope f c').nox.ex → False := fun b z => by
    have z : b ∈ ([] : List Addr) := z
    cases z
  have cell_on : ∀ {c : Addr} {z : Option Value}, s.heap.IsCell c z → h₁.IsCell c z := fun {c z} ⟨o, k1, k2⟩ => ⟨o, kp _ _ k1, k2⟩
  have ilt : i < σ.length := by
    rw [I.len]
    exact (List.getElem?_eq_some_iff.mp hi).1
  refine ⟨⟨e0.mod, L.kind, rfl, rfl, Nat.le_refl _, fun y z c k1 k2 => I.ok.inj y z c (back k1) (back k2), fun y hy => ?_, fun y c z _ => ?_, fun _ => hd, Around.frames_deeper fr, .inr ⟨rfl, rfl⟩, fun b z => (none_in b z).elim, e0.bs, e0.bsz, fun b _ _ z => none_in b z,
      fun b z => (none_in b z).elim, e0.funs, e0.frf⟩,
    rfl, e0.bare, Un.kept kp, ⟨_, hns, fun j y w k1 k2 k3 => ?_⟩, fun y c e => ?_, e0.hok.fresh (Nat.le_refl _), fun y c e => ?_, fun q hq => ?_, e0.hok.kept kp, by rw [List.length_set]; exact I.len⟩
  · have hy : scope.names.lookup y = some .cell ∨ scope.names.lookup y = some .free := hy
    rcases hy with hy | hy
    · exact absurd rfl (L.nocell _ (PySem.mem_of_lookup hy))
    · exact forth hy
  · have z : false = true := z
    cases z
  · have k1 : X.N[j]? = some y := k1
    have k3 : Vis scope y := k3
    rcases k3 with k | k | k
    · have e : y = x := L.own _ (PySem.mem_of_lookup k) rfl
      have hj : j = i := nodup_ix hN k1 (e ▸ hi)
      rw [hj, List.getElem?_set_self ilt] at k2
      cases k2
      refine ⟨u, r, .inl ⟨k, ?_⟩⟩
      rw [e]
      show ([(x, u)] : List (Str × Value)).lookup x = some u
      simp
    · exact absurd rfl (L.nocell _ (PySem.mem_of_lookup k))
    · have hj : i ≠ j := fun z => by
        rw [← z, hi] at k1
        have z2 : x = y := Option.some.inj k1
        rw [← z2, L.par] at k
        cases k
      rw [List.getElem?_set_ne hj] at k2
      obtain ⟨m, _, hl⟩ := I.loc
      have vis : Vis X.env.scope y := (L.free _ (PySem.mem_of_lookup k) rfl).elim (fun k => .inr (.inl k)) fun k => .inr (.inr k)
      obtain ⟨w', rw', q⟩ := hl j y w k1 k2 vis
      obtain ⟨c2, h2⟩ := forth k
      refine ⟨w', rw', .inr ⟨.inr k, c2, h2, ?_⟩⟩
      rcases q with ⟨z, _⟩ | ⟨_, c3, z1, z2⟩
      · have z : X.env.scope.names.lookup y = some .local := z
        rcases L.free _ (PySem.mem_of_lookup k) rfl with z4 | z4
        · have z4 : X.env.scope.names.lookup y = some .cell := z4
          rw [z4] at z
          cases z
        · have z4 : X.env.scope.names.lookup y = some .free := z4
          rw [z4] at z
          cases z
      · rw [back h2] at z1
        cases z1
        exact cell_on z2
  · obtain ⟨z, k⟩ := I.cell y c (back e)
    exact ⟨z, cell_on k⟩
  · exact I.freeC y c (back e)
  · have hq : q ∈ ([] : List (Addr × Obj)) ++ [] := hq
    cases hq
/-- what is known of the lambda made here: f its function, c' its code object -/
structure LamAt (X : Cx) (s : Shared) (H : Hp) (params : Arguments) (body : Expr) (scope : Scope) (f c' : Addr) (pm ctv : Value) : Prop where
  obj : s.heap.get? f = some (PySem.W.kla_obj "<lambda>" (X.env.qual ++ "<lambda>") params body scope (cloFrom X.env.cells scope.names []) pm c' ctv)
  code : H c' = some (CodeO c' (X.env.qual ++ "<lambda>"))
/-- f(u) from a built-in -/
theorem lam_run {A : Around} {params : Arguments} {body : Expr} {scope : Scope} {x : Str} {i k : Nat} {v : V} {u : Value} {f c' : Addr} {pm ctv : Value} {tb : TE} {Q : VK} {E : Value → Shared → Prop} (I : Inv X pins σ H s) (L : Lam1 X.env.scope scope x) (hN : X.N.Nodup) (hi : X.N[i]? = some x) (r : RelV v u)
    (fr : A.frames = some X.stack) (hr : Room (k + 1) A) (la : LamAt X s H params body scope f c' pm ctv) (hb : bindArgs (PySem.W.kla_fn "<lambda>" (X.env.qual ++ "<lambda>") params body scope (cloFrom X.env.cells scope.names []) pm (.ref c') ctv) ⟨[u], []⟩ = pure [(x, u)])
    (hbody : PE (lamCx X A X.stack s H L2.E0 scope f c').nox body tb) (ht : tb (σ.set i (some v)) H Q) :
    wpAny (model X.prog X.w) A (call (.ref f) [u]) (EP X pins σ Q) E s := by
  obtain ⟨⟨oc, vs, t, hoc, hdc, hvc⟩, _, _⟩ := I.hok c' _ la.code
  have run : codeAny (model X.prog X.w) A (.call (.ref f) ⟨[u], []⟩) (fun r s' => ∃ u', r = .ok (.ret u') ∧ CE X.stack X.prog X.w H s Q u' s') s := by
    refine PySem.W.kla_callFunE hr.depth la.obj rfl L.co L.gen rfl ⟨c', oc, vs, t, rfl, hoc, hdc, hvc⟩ ?_
    rw [hb]
    refine wpAny_pure (wpAny_newFunctionEnv L.nocell (fun y hy => ?_) (fun h₁ hns hsb => ⟨I.nolimit.fresh _ hsb, ?_⟩) L.kind)
    · have : y = (x, u) := List.mem_singleton.mp hy
      rw [this]
      exact L.par
    · have kp : ∀ b o, s.heap.get? b = some o → h₁.get? b = some o := fun b o e => hsb.extBut b o (Nat.ne_of_lt (Heap.lt_size e)) (Heap.get?_push_of_some _ e)
      have J := enter1 (E := L2.E0) (f := f) (c' := c') (tk := s.toks + ([(x, u)] : List (Str × Value)).length) I L hN hi r fr hr.hd hns kp
      show codeAny _ _ (.expr body (lamEnv X scope s.heap.objs.size f c')) _ _
      refine PySem.W.kla_codeExpr (wpAny_mono (hbody.run [] _ _ H Q J ht) (fun w s' hq => ?_) fun e s' hq => hq.elim)
      obtain ⟨v', H', J', rv, q⟩ := hq
      exact ⟨w, rfl, v', H', J'.os, J'.bare, J'.base, J'.hok, rv, q⟩
  refine wpAny_call (codeAny_mono run fun r' s' hq => ?_)
  obtain ⟨u', rfl, ce⟩ := hq
  exact I.after ce
end

/-! ### the built-in that asks a key of each item -/
/-- an untracked record of one's own, made behind the entry -/
structure Own (X : Cx) (ps : List (Addr × Obj)) (b : Addr) : Prop where
  loc : b ≠ X.env.locals
  fs : b ∉ X.fs
  new : b ∈ X.ex ∨ X.s_0.heap.objs.size ≤ b
  cell : ∀ x c, X.env.cells.lookup x = some c → c ≠ b
  pin : ∀ p ∈ X.pn ++ ps, p.1 ≠ b
section
variable {X : Cx} {ps : List (Addr × Obj)} {σ : L2.St} {H : Hp} {s : Shared}
theorem Own.of (I : Inv X ps σ H s) {b : Addr} (hb : s.heap.objs.size ≤ b) : Own X ps b := by
  obtain ⟨_, k1, k2, k3, k4, k5⟩ := I.fpOk (H' := fun _ => none) hb rfl
  exact ⟨k1, k2, k3, k4, k5⟩
/-- one pin more -/
theorem pin_on (I : Inv X ps σ H s) {b : Addr} {o : Obj} (w : Own X ps b) (e : s.heap.get? b = some o) (n : H b = none) (d : ∀ v, o.data ≠ .cell v) : Inv X ((b, o) :: ps) σ H s :=
  I.pins_of fun p hp => by
    rcases List.mem_cons.mp hp with rfl | hp
    · exact ⟨e, n, w.loc, w.fs, d⟩
    · exact I.pin p (List.mem_append_right _ hp)
theorem pin_off {q : List (Addr × Obj)} (I : Inv X q σ H s) (h : ∀ p ∈ ps, p ∈ q) : Inv X ps σ H s := I.pins_of fun p hp => I.pin p (List.mem_append_right _ (h p hp))
/-- the record at b has turned -/
theorem turn_on {h' : Heap} {tk : Nat} {b : Addr} {o : Obj} (I : Inv X ps σ H s) (w : Own X ps b) (n : H b = none) (k : ∀ a q, a ≠ b → s.heap.get? a = some q → h'.get? a = some q) (e : h'.get? b = some o) (d : ∀ v, o.data ≠ .cell v) :
    Inv X ((b, o) :: ps) σ H { s with heap := h', toks := tk } :=
  pin_on (I.turned k n w.loc w.new w.cell w.pin) w e n d
end

section
variable {X : Cx} {pins : List (Addr × Obj)} {σ : L2.St} {l f : Addr} {xs : List V} {kf : Nat → Int} {G : Hp → Prop}
/-- the best so far -/
def Best_max (kf : Nat → Int) (n i : Nat) : Prop := ∀ b, b < n → kf b ≤ kf i ∧ (b < i → kf b < kf i)
theorem Best_max.keep {j i : Nat} (b : Best_max kf (j + 1) i) (h : i ≤ j) (n : ¬ kf (j + 1) > kf i) : Best_max kf (j + 1 + 1) i := fun a ha => by
  by_cases e : a = j + 1
  · subst e
    exact ⟨by omega, fun _ => by omega⟩
  · exact b a (by omega)
theorem Best_max.take {j i : Nat} (b : Best_max kf (j + 1) i) (h : i ≤ j) (n : kf (j + 1) > kf i) : Best_max kf (j + 1 + 1) (j + 1) := fun a ha => by
  by_cases e : a = j + 1
  · subst e
    exact ⟨by omega, fun _ => by omega⟩
  · have q := (b a (by omega)).1
    exact ⟨by omega, fun _ => by omega⟩
/-- what a key's call does -/
def KeyOk (X : Cx) (pins : List (Addr × Obj)) (σ : L2.St) (f : Addr) (xs : List V) (kf : Nat → Int) (G : Hp → Prop) : Prop :=
  ∀ (i : Nat) (x : V) (u : Value) (ps : List (Addr × Obj)) (H1 : Hp) (s1 : Shared), xs[i]? = some x → RelV x u → (∀ p ∈ pins, p ∈ ps) → Inv X ps σ H1 s1 → G H1 →
    wpAny (model X.prog X.w) X.A.in1 (call (.ref f) [u]) (EP X ps σ fun v H2 => v = .int (kf i) ∧ G H2) (fun _ _ => False) s1
theorem max_loop {R : Result → Shared → Prop} {Iv Sv : Addr} (hc : X.calm = true) (hl : ∀ H, G H → SqL X.K H l xs) (key : KeyOk X pins σ f xs kf G) (wI : Own X pins Iv) (wS : Own X pins Sv) (hSI : Sv ≠ Iv) (hlI : l ≠ Iv)
    (hR : ∀ i x u H1 s1, xs[i]? = some x → Best_max kf xs.length i → RelV x u → Inv X pins σ H1 s1 → G H1 → R (.ok (.ret u)) s1) :
    ∀ (r j i : Nat) (H : Hp) (s : Shared) (x : V) (vb : Value) (tb : Tok) (c : Nat) (oI : Obj), xs.length - (j + 1) = r → j + 1 ≤ xs.length → G H → Inv X ((Sv, seqObj "list" #[vb, .int (kf i) tb] c) :: (Iv, oI) :: pins) σ H s → s.heap.IsListIter Iv l (j + 1) →
      xs[i]? = some x → RelV x vb → i ≤ j → Best_max kf (j + 1) i → codeAny (model X.prog X.w) X.A (.builtin "max.loop" ⟨[.ref Iv, .ref f, .ref Sv], []⟩) R s := by
  have nm : (toString "max" ++ toString ".loop" : String) = "max.loop" := by decide
  intro r
  induction r with
  | zero =>
    intro j i H s x vb tb c oI hr hj g I it hx rx hij hb
    have hn : j + 1 = xs.length := by omega
    obtain ⟨its, rv, p, hz⟩ := (pin_off (ps := pins) I fun q hq => List.mem_cons_of_mem _ (List.mem_cons_of_mem _ hq)).list (hl H g)
    have pS := I.pin (Sv, seqObj "list" #[vb, .int (kf i) tb] c) (List.mem_append_right _ (.head _))
    have pI := I.pin (Iv, oI) (List.mem_append_right _ (.tail _ (.head _)))
    refine codeAny_builtin PySem.F.entry_max_loop ?_
    rw [Around.under_plainId PySem.F.plain_max_loop _]
    show wpAny _ X.A.in1 (seqItems? (.ref Sv) >>= _) _ _ _
    refine wpAny_bind (wpAny_seqItems pS.1 rfl ?_)
    show wpAny _ X.A.in1 (tryCatch (pyNext (.ref Iv)) _ >>= _) _ _ _
    refine wpAny_bind (wpAny_tryCatch (wpAny_pyNext_list_end (show X.A.in1.handled = none from I.ok.hd hc) it p.isList (by have := rv.length; simp; omega) fun h' eb => ?_))
    have J := pin_off (ps := pins) I fun q hq => List.mem_cons_of_mem _ (List.mem_cons_of_mem _ hq)
    have J1 : Inv X pins σ H { s with heap := h' } := J.turned (t' := s.toks) (fun b o hb e => eb b o hb e) pI.2.1 wI.loc wI.new wI.cell wI.pin
    have s1 := Heap.SameBut.update h' Sv (Obj.mapSeq fun _ => (#[] : Array Value))
    show wpAny _ X.A.in1 (updateSeq Sv (fun _ => #[]) >>= _) _ _ _
    refine wpAny_bind (wpAny_updateSeq (eb Sv _ hSI pS.1) rfl (wpAny_bind (wpAny_letGo (wpAny_pure ?_))))
    have J2 : Inv X pins σ H { s with heap := h'.update Sv (Obj.mapSeq fun _ => (#[] : Array Value)) } := J1.turned (t' := s.toks) (fun b o hb e => (s1.2 b hb).trans e) pS.2.1 wS.loc wS.new wS.cell wS.pin
    exact hR i x vb H _ hx (hn ▸ hb) rx J2 g
  | succ r ih =>
    intro j i H s x vb tb c oI hr hj g I it hx rx hij hb
    have hlt : j + 1 < xs.length := by omega
    obtain ⟨its, rv, p, hz⟩ := (pin_off (ps := pins) I fun q hq => List.mem_cons_of_mem _ (List.mem_cons_of_mem _ hq)).list (hl H g)
    have pS := I.pin (Sv, seqObj "list" #[vb, .int (kf i) tb] c) (List.mem_append_right _ (.head _))
    have pI := I.pin (Iv, oI) (List.mem_append_right _ (.tail _ (.head _)))
    have hy : xs[j + 1]? = some xs[j + 1] := List.getElem?_eq_getElem hlt
    obtain ⟨u, hu, ru⟩ := rv.get hy
    refine codeAny_builtin PySem.F.entry_max_loop ?_
    rw [Around.under_plainId PySem.F.plain_max_loop _]
    show wpAny _ X.A.in1 (seqItems? (.ref Sv) >>= _) _ _ _
    refine wpAny_bind (wpAny_seqItems pS.1 rfl ?_)
    show wpAny _ X.A.in1 (tryCatch (pyNext (.ref Iv)) _ >>= _) _ _ _
    refine wpAny_bind (wpAny_tryCatch (wpAny_pyNext_list_item it p.isList (x := u) (by simpa using hu) fun h' it' sb => ?_))
    obtain ⟨oJ, hJ, hJc, hJd⟩ := id it'
    have nJ : ∀ v, oJ.data ≠ .cell v := fun v z => by
      rw [hJd] at z
      cases z
    have kept : ∀ a q, a ≠ Iv → s.heap.get? a = some q → h'.get? a = some q := fun a q ha e => (sb.2 a ha).trans e
    have I1 := turn_on (tk := s.toks) (pin_off (ps := pins) I fun q hq => List.mem_cons_of_mem _ (List.mem_cons_of_mem _ hq)) wI pI.2.1 kept hJ nJ
    have wS' : Own X ((Iv, oJ) :: pins) Sv := ⟨wS.loc, wS.fs, wS.new, wS.cell, fun q hq => by
      rcases List.mem_append.mp hq with z | z
      · exact wS.pin q (List.mem_append_left _ z)
      · rcases List.mem_cons.mp z with rfl | z
        · exact hSI.symm
        · exact wS.pin q (List.mem_append_right _ z)⟩
    have I2 : Inv X ((Sv, seqObj "list" #[vb, .int (kf i) tb] c) :: (Iv, oJ) :: pins) σ H { s with heap := h' } := pin_on I1 wS' (kept Sv _ hSI pS.1) pS.2.1 fun v z => by cases z
    show wpAny _ X.A.in1 (tryCatch (holding [u] (call (.ref f) [u])) _ >>= _) _ _ _
    refine wpAny_bind (wpAny_tryCatch (wpAny_holding (wpAny_mono (key (j + 1) _ u _ H _ hy ru (fun q hq => List.mem_cons_of_mem _ (List.mem_cons_of_mem _ hq)) I2 g) (fun w s2 he => ?_) fun _ _ z => z.elim)))
    obtain ⟨v2, H2, I3, r2, rfl, g2⟩ := he
    obtain ⟨t2, rfl⟩ := r2
    have qS := I3.pin (Sv, seqObj "list" #[vb, .int (kf i) tb] c) (List.mem_append_right _ (.head _))
    have qI := I3.pin (Iv, oJ) (List.mem_append_right _ (.tail _ (.head _)))
    have it2 : s2.heap.IsListIter Iv l (j + 1 + 1) := ⟨oJ, qI.1, hJc, hJd⟩
    show wpAny _ X.A.in1 (tryCatch (holding [u, .int (kf (j + 1)) t2] (richCompare .Gt (.int (kf (j + 1)) t2) (.int (kf i) tb) >>= _)) _ >>= _) _ _ _
    refine wpAny_bind (wpAny_tryCatch (wpAny_holding (wpAny_bind (CmpOf.ints_gt (prog := X.prog) (w := X.w) (A := X.A.in1) (P := fun a v => ∃ t, v = .int (kf a) t) kf (fun a v h => h) (j + 1) i _ _ _ _ _ ⟨t2, rfl⟩ ⟨tb, rfl⟩ ?_))))
    refine wpAny_bind (wpAny_holding (wpAny_truthy_bool (wpAny_bind (wpAny_letGo (wpAny_pure ?_)))))
    by_cases ht : kf (j + 1) > kf i
    · have s1 := Heap.SameBut.update s2.heap Sv (Obj.mapSeq fun _ => #[u, .int (kf (j + 1)) t2])
      obtain ⟨c2, hc2⟩ : ∃ c2, (s2.heap.update Sv (Obj.mapSeq fun _ => #[u, .int (kf (j + 1)) t2])).get? Sv = some (seqObj "list" #[u, .int (kf (j + 1)) t2] c2) := ⟨_, get?_update_seq qS.1 fun _ => #[u, .int (kf (j + 1)) t2]⟩
      simp only [ht, decide_true, if_true]
      refine wpAny_bind (wpAny_updateSeq qS.1 rfl (wpAny_bind (wpAny_letGo ?_)))
      rw [nm]
      have I4 := turn_on (tk := s2.toks) (pin_off (ps := (Iv, oJ) :: pins) I3 fun q hq => List.mem_cons_of_mem _ hq) wS' qS.2.1 (fun a q ha e => (s1.2 a ha).trans e) hc2 (fun v z => by cases z)
      exact wpAny_pure ⟨plainId_quiet PySem.F.plain_max_loop _, ih (j + 1) (j + 1) H2 _ _ u t2 c2 oJ (by omega) hlt g2 I4 ⟨oJ, (s1.2 Iv hSI.symm).trans qI.1, hJc, hJd⟩ hy ru (Nat.le_refl _) (hb.take hij ht)⟩
    · simp only [ht, decide_false, Bool.false_eq_true, if_false]
      refine wpAny_bind (wpAny_letGo ?_)
      rw [nm]
      exact wpAny_pure ⟨plainId_quiet PySem.F.plain_max_loop _, ih (j + 1) i H2 _ x vb tb c oJ (by omega) hlt g2 I3 it2 hx rx (by omega) (hb.keep hij ht)⟩
/-- max(l, key=f) -/
theorem max_key {E : Value → Shared → Prop} {Q : Value → Shared → Prop} {H : Hp} {s : Shared} (hc : X.calm = true) (I : Inv X pins σ H s) (g : G H) (hl : ∀ H, G H → SqL X.K H l xs) (hne : 0 < xs.length) (key : KeyOk X pins σ f xs kf G)
    (hQ : ∀ i x u H1 s1, xs[i]? = some x → Best_max kf xs.length i → RelV x u → Inv X pins σ H1 s1 → G H1 → Q u s1) :
    wpAny (model X.prog X.w) X.A (call (.builtin "max") [.ref l] [(Str.ofString "key", .ref f)]) Q E s := by
  have nm : (toString "max" ++ toString ".loop" : String) = "max.loop" := by decide
  obtain ⟨its, rv, p, hz⟩ := I.list (hl H g)
  obtain ⟨ol, hol, _⟩ := id p.isList
  have ll : l < s.heap.objs.size := Heap.lt_size hol
  refine PyProof.Rows.kmk_tree PySem.F.kind_max PySem.F.plain_max PySem.F.entry_max (PyProof.Rows.kmk_max_key _ _) ?_
  show wpAny _ X.A.in1 (Builtin.Builtins.bindParams "max" ["key", "default"] 0 ⟨[], [(Str.ofString "key", .ref f)]⟩ >>= _) _ _ s
  refine wpAny_bind (wpAny_of_eq (show Builtin.Builtins.bindParams "max" ["key", "default"] 0 ⟨[], [(Str.ofString "key", .ref f)]⟩ = pure [some (.ref f), none] from rfl) (wpAny_bind (wpAny_pure ?_)))
  refine wpAny_bind (wpAny_pyIter_list p.isList (wpAny_bind (wpAny_newList ?_ (Nat.zero_le _))))
  rw [nm]
  generalize hA : s.heap.push { cls := .type "list_iterator", data := .fields #[.ref l, .int 0 0] } = hp1
  have z1 : hp1.objs.size = s.heap.objs.size + 1 := by rw [← hA]; exact size_push' ..
  have kp1 : ∀ b o, s.heap.get? b = some o → hp1.get? b = some o := fun b o e => by rw [← hA]; exact Heap.get?_push_of_some _ e
  have gI : hp1.get? s.heap.objs.size = some { cls := .type "list_iterator", data := .fields #[.ref l, .int 0 0] } := by rw [← hA]; exact Heap.get?_push_size _ rfl
  have wI := Own.of I (Nat.le_refl _)
  have wS : Own X pins hp1.objs.size := Own.of I (by omega)
  have hSI : hp1.objs.size ≠ s.heap.objs.size := by omega
  have nI : H s.heap.objs.size = none := I.hok.fresh (Nat.le_refl _)
  have nS : H hp1.objs.size = none := I.hok.fresh (by omega)
  have gI2 : (hp1.push (seqObj "list" #[] 0)).get? s.heap.objs.size = some { cls := .type "list_iterator", data := .fields #[.ref l, .int 0 0] } := Heap.get?_push_of_some _ gI
  have gS : (hp1.push (seqObj "list" #[] 0)).get? hp1.objs.size = some (seqObj "list" #[] 0) := Heap.get?_push_size _ rfl
  have J0 : Inv X pins σ H { s with heap := hp1.push (seqObj "list" #[] 0) } := I.kept (t' := s.toks) fun b o e => Heap.get?_push_of_some _ (kp1 b o e)
  obtain ⟨its', rv', p', hz'⟩ := J0.list (hl H g)
  have h0 : xs[0]? = some xs[0] := List.getElem?_eq_getElem hne
  obtain ⟨u, hu, ru⟩ := rv'.get h0
  refine wpAny_pure ⟨plainId_quiet PySem.F.plain_max_loop _, codeAny_builtin PySem.F.entry_max_loop ?_⟩
  rw [Around.under_plainId PySem.F.plain_max_loop _]
  show wpAny _ X.A.in1 (seqItems? (.ref hp1.objs.size) >>= _) _ _ _
  refine wpAny_bind (wpAny_seqItems gS rfl ?_)
  show wpAny _ X.A.in1 (tryCatch (pyNext (.ref s.heap.objs.size)) _ >>= _) _ _ _
  refine wpAny_bind (wpAny_tryCatch (wpAny_pyNext_list_item (i := 0) ⟨_, gI2, rfl, rfl⟩ p'.isList (x := u) (by simpa using hu) fun h' it' sb => ?_))
  obtain ⟨oJ, hJ, hJc, hJd⟩ := id it'
  have nJ : ∀ v, oJ.data ≠ .cell v := fun v z => by
    rw [hJd] at z
    cases z
  have kept : ∀ a q, a ≠ s.heap.objs.size → (hp1.push (seqObj "list" #[] 0)).get? a = some q → h'.get? a = some q := fun a q ha e => (sb.2 a ha).trans e
  have I1 := turn_on (tk := s.toks) J0 wI nI kept hJ nJ
  have wS' : Own X ((s.heap.objs.size, oJ) :: pins) hp1.objs.size := ⟨wS.loc, wS.fs, wS.new, wS.cell, fun q hq => by
    rcases List.mem_append.mp hq with z | z
    · exact wS.pin q (List.mem_append_left _ z)
    · rcases List.mem_cons.mp z with rfl | z
      · exact hSI.symm
      · exact wS.pin q (List.mem_append_right _ z)⟩
  have I2 : Inv X ((hp1.objs.size, seqObj "list" #[] 0) :: (s.heap.objs.size, oJ) :: pins) σ H { s with heap := h' } := pin_on I1 wS' (kept _ _ hSI gS) nS fun v z => by cases z
  show wpAny _ X.A.in1 (tryCatch (holding [u] (call (.ref f) [u])) _ >>= _) _ _ _
  refine wpAny_bind (wpAny_tryCatch (wpAny_holding (wpAny_mono (key 0 _ u _ H _ h0 ru (fun q hq => List.mem_cons_of_mem _ (List.mem_cons_of_mem _ hq)) I2 g) (fun w s2 he => ?_) fun _ _ z => z.elim)))
  obtain ⟨v2, H2, I3, r2, rfl, g2⟩ := he
  obtain ⟨t2, rfl⟩ := r2
  have qS := I3.pin (hp1.objs.size, seqObj "list" #[] 0) (List.mem_append_right _ (.head _))
  have qI := I3.pin (s.heap.objs.size, oJ) (List.mem_append_right _ (.tail _ (.head _)))
  have s1 := Heap.SameBut.update s2.heap hp1.objs.size (Obj.mapSeq fun _ => #[u, .int (kf 0) t2])
  obtain ⟨c2, hc2⟩ : ∃ c2, (s2.heap.update hp1.objs.size (Obj.mapSeq fun _ => #[u, .int (kf 0) t2])).get? hp1.objs.size = some (seqObj "list" #[u, .int (kf 0) t2] c2) := ⟨_, get?_update_seq qS.1 fun _ => #[u, .int (kf 0) t2]⟩
  show wpAny _ X.A.in1 (updateSeq hp1.objs.size (fun _ => #[u, .int (kf 0) t2]) >>= _) _ _ _
  refine wpAny_bind (wpAny_updateSeq qS.1 rfl ?_)
  rw [nm]
  have I4 := turn_on (tk := s2.toks) (pin_off (ps := (s.heap.objs.size, oJ) :: pins) I3 fun q hq => List.mem_cons_of_mem _ hq) wS' qS.2.1 (fun a q ha e => (s1.2 a ha).trans e) hc2 (fun v z => by cases z)
  refine wpAny_pure ⟨plainId_quiet PySem.F.plain_max_loop _, max_loop hc hl key wI wS hSI (Nat.ne_of_lt ll) hQ _ 0 0 H2 _ _ u t2 c2 oJ rfl hne g2 I4 ⟨oJ, (s1.2 _ hSI.symm).trans qI.1, hJc, hJd⟩ h0 ru (Nat.le_refl _) fun b hb => ?_⟩
  obtain rfl : b = 0 := by omega
  exact ⟨Int.le_refl _, fun z => absurd z (Nat.lt_irrefl _)⟩
end

section
variable {X : Cx} {pins : List (Addr × Obj)} {σ : L2.St} {l f : Addr} {xs : List V} {kf : Nat → Int} {G : Hp → Prop}
/-- the best so far -/
def Best_min (kf : Nat → Int) (n i : Nat) : Prop := ∀ b, b < n → kf i ≤ kf b ∧ (b < i → kf i < kf b)
theorem Best_min.keep {j i : Nat} (b : Best_min kf (j + 1) i) (h : i ≤ j) (n : ¬ kf (j + 1) < kf i) : Best_min kf (j + 1 + 1) i := fun a ha => by
  by_cases e : a = j + 1
  · subst e
    exact ⟨by omega, fun _ => by omega⟩
  · exact b a (by omega)
theorem Best_min.take {j i : Nat} (b : Best_min kf (j + 1) i) (h : i ≤ j) (n : kf (j + 1) < kf i) : Best_min kf (j + 1 + 1) (j + 1) := fun a ha => by
  by_cases e : a = j + 1
  · subst e
    exact ⟨by omega, fun _ => by omega⟩
  · have q := (b a (by omega)).1
    exact ⟨by omega, fun _ => by omega⟩
theorem min_loop {R : Result → Shared → Prop} {Iv Sv : Addr} (hc : X.calm = true) (hl : ∀ H, G H → SqL X.K H l xs) (key : KeyOk X pins σ f xs kf G) (wI : Own X pins Iv) (wS : Own X pins Sv) (hSI : Sv ≠ Iv) (hlI : l ≠ Iv)
    (hR : ∀ i x u H1 s1, xs[i]? = some x → Best_min kf xs.length i → RelV x u → Inv X pins σ H1 s1 → G H1 → R (.ok (.ret u)) s1) :
    ∀ (r j i : Nat) (H : Hp) (s : Shared) (x : V) (vb : Value) (tb : Tok) (c : Nat) (oI : Obj), xs.length - (j + 1) = r → j + 1 ≤ xs.length → G H → Inv X ((Sv, seqObj "list" #[vb, .int (kf i) tb] c) :: (Iv, oI) :: pins) σ H s → s.heap.IsListIter Iv l (j + 1) →
      xs[i]? = some x → RelV x vb → i ≤ j → Best_min kf (j + 1) i → codeAny (model X.prog X.w) X.A (.builtin "min.loop" ⟨[.ref Iv, .ref f, .ref Sv], []⟩) R s := by
  have nm : (toString "min" ++ toString ".loop" : String) = "min.loop" := by decide
  intro r
  induction r with
  | zero =>
    intro j i H s x vb tb c oI hr hj g I it hx rx hij hb
    have hn : j + 1 = xs.length := by omega
    obtain ⟨its, rv, p, hz⟩ := (pin_off (ps := pins) I fun q hq => List.mem_cons_of_mem _ (List.mem_cons_of_mem _ hq)).list (hl H g)
    have pS := I.pin (Sv, seqObj "list" #[vb, .int (kf i) tb] c) (List.mem_append_right _ (.head _))
    have pI := I.pin (Iv, oI) (List.mem_append_right _ (.tail _ (.head _)))
    refine codeAny_builtin PySem.F.entry_min_loop ?_
    rw [Around.under_plainId PySem.F.plain_min_loop _]
    show wpAny _ X.A.in1 (seqItems? (.ref Sv) >>= _) _ _ _
    refine wpAny_bind (wpAny_seqItems pS.1 rfl ?_)
    show wpAny _ X.A.in1 (tryCatch (pyNext (.ref Iv)) _ >>= _) _ _ _
    refine wpAny_bind (wpAny_tryCatch (wpAny_pyNext_list_end (show X.A.in1.handled = none from I.ok.hd hc) it p.isList (by have := rv.length; simp; omega) fun h' eb => ?_))
    have J := pin_off (ps := pins) I fun q hq => List.mem_cons_of_mem _ (List.mem_cons_of_mem _ hq)
    have J1 : Inv X pins σ H { s with heap := h' } := J.turned (t' := s.toks) (fun b o hb e => eb b o hb e) pI.2.1 wI.loc wI.new wI.cell wI.pin
    have s1 := Heap.SameBut.update h' Sv (Obj.mapSeq fun _ => (#[] : Array Value))
    show wpAny _ X.A.in1 (updateSeq Sv (fun _ => #[]) >>= _) _ _ _
    refine wpAny_bind (wpAny_updateSeq (eb Sv _ hSI pS.1) rfl (wpAny_bind (wpAny_letGo (wpAny_pure ?_))))
    have J2 : Inv X pins σ H { s with heap := h'.update Sv (Obj.mapSeq fun _ => (#[] : Array Value)) } := J1.turned (t' := s.toks) (fun b o hb e => (s1.2 b hb).trans e) pS.2.1 wS.loc wS.new wS.cell wS.pin
    exact hR i x vb H _ hx (hn ▸ hb) rx J2 g
  | succ r ih =>
    intro j i H s x vb tb c oI hr hj g I it hx rx hij hb
    have hlt : j + 1 < xs.length := by omega
    obtain ⟨its, rv, p, hz⟩ := (pin_off (ps := pins) I fun q hq => List.mem_cons_of_mem _ (List.mem_cons_of_mem _ hq)).list (hl H g)
    have pS := I.pin (Sv, seqObj "list" #[vb, .int (kf i) tb] c) (List.mem_append_right _ (.head _))
    have pI := I.pin (Iv, oI) (List.mem_append_right _ (.tail _ (.head _)))
    have hy : xs[j + 1]? = some xs[j + 1] := List.getElem?_eq_getElem hlt
    obtain ⟨u, hu, ru⟩ := rv.get hy
    refine codeAny_builtin PySem.F.entry_min_loop ?_
    rw [Around.under_plainId PySem.F.plain_min_loop _]
    show wpAny _ X.A.in1 (seqItems? (.ref Sv) >>= _) _ _ _
    refine wpAny_bind (wpAny_seqItems pS.1 rfl ?_)
    show wpAny _ X.A.in1 (tryCatch (pyNext (.ref Iv)) _ >>= _) _ _ _
    refine wpAny_bind (wpAny_tryCatch (wpAny_pyNext_list_item it p.isList (x := u) (by simpa using hu) fun h' it' sb => ?_))
    obtain ⟨oJ, hJ, hJc, hJd⟩ := id it'
    have nJ : ∀ v, oJ.data ≠ .cell v := fun v z => by
      rw [hJd] at z
      cases z
    have kept : ∀ a q, a ≠ Iv → s.heap.get? a = some q → h'.get? a = some q := fun a q ha e => (sb.2 a ha).trans e
    have I1 := turn_on (tk := s.toks) (pin_off (ps := pins) I fun q hq => List.mem_cons_of_mem _ (List.mem_cons_of_mem _ hq)) wI pI.2.1 kept hJ nJ
    have wS' : Own X ((Iv, oJ) :: pins) Sv := ⟨wS.loc, wS.fs, wS.new, wS.cell, fun q hq => by
      rcases List.mem_append.mp hq with z | z
      · exact wS.pin q (List.mem_append_left _ z)
      · rcases List.mem_cons.mp z with rfl | z
        · exact hSI.symm
        · exact wS.pin q (List.mem_append_right _ z)⟩
    have I2 : Inv X ((Sv, seqObj "list" #[vb, .int (kf i) tb] c) :: (Iv, oJ) :: pins) σ H { s with heap := h' } := pin_on I1 wS' (kept Sv _ hSI pS.1) pS.2.1 fun v z => by cases z
    show wpAny _ X.A.in1 (tryCatch (holding [u] (call (.ref f) [u])) _ >>= _) _ _ _
    refine wpAny_bind (wpAny_tryCatch (wpAny_holding (wpAny_mono (key (j + 1) _ u _ H _ hy ru (fun q hq => List.mem_cons_of_mem _ (List.mem_cons_of_mem _ hq)) I2 g) (fun w s2 he => ?_) fun _ _ z => z.elim)))
    obtain ⟨v2, H2, I3, r2, rfl, g2⟩ := he
    obtain ⟨t2, rfl⟩ := r2
    have qS := I3.pin (Sv, seqObj "list" #[vb, .int (kf i) tb] c) (List.mem_append_right _ (.head _))
    have qI := I3.pin (Iv, oJ) (List.mem_append_right _ (.tail _ (.head _)))
    have it2 : s2.heap.IsListIter Iv l (j + 1 + 1) := ⟨oJ, qI.1, hJc, hJd⟩
    show wpAny _ X.A.in1 (tryCatch (holding [u, .int (kf (j + 1)) t2] (richCompare .Lt (.int (kf (j + 1)) t2) (.int (kf i) tb) >>= _)) _ >>= _) _ _ _
    refine wpAny_bind (wpAny_tryCatch (wpAny_holding (wpAny_bind (CmpOf.ints_lt (prog := X.prog) (w := X.w) (A := X.A.in1) (P := fun a v => ∃ t, v = .int (kf a) t) kf (fun a v h => h) (j + 1) i _ _ _ _ _ ⟨t2, rfl⟩ ⟨tb, rfl⟩ ?_))))
    refine wpAny_bind (wpAny_holding (wpAny_truthy_bool (wpAny_bind (wpAny_letGo (wpAny_pure ?_)))))
    by_cases ht : kf (j + 1) < kf i
    · have s1 := Heap.SameBut.update s2.heap Sv (Obj.mapSeq fun _ => #[u, .int (kf (j + 1)) t2])
      obtain ⟨c2, hc2⟩ : ∃ c2, (s2.heap.update Sv (Obj.mapSeq fun _ => #[u, .int (kf (j + 1)) t2])).get? Sv = some (seqObj "list" #[u, .int (kf (j + 1)) t2] c2) := ⟨_, get?_update_seq qS.1 fun _ => #[u, .int (kf (j + 1)) t2]⟩
      simp only [ht, decide_true, if_true]
      refine wpAny_bind (wpAny_updateSeq qS.1 rfl (wpAny_bind (wpAny_letGo ?_)))
      rw [nm]
      have I4 := turn_on (tk := s2.toks) (pin_off (ps := (Iv, oJ) :: pins) I3 fun q hq => List.mem_cons_of_mem _ hq) wS' qS.2.1 (fun a q ha e => (s1.2 a ha).trans e) hc2 (fun v z => by cases z)
      exact wpAny_pure ⟨plainId_quiet PySem.F.plain_min_loop _, ih (j + 1) (j + 1) H2 _ _ u t2 c2 oJ (by omega) hlt g2 I4 ⟨oJ, (s1.2 Iv hSI.symm).trans qI.1, hJc, hJd⟩ hy ru (Nat.le_refl _) (hb.take hij ht)⟩
    · simp only [ht, decide_false, Bool.false_eq_true, if_false]
      refine wpAny_bind (wpAny_letGo ?_)
      rw [nm]
      exact wpAny_pure ⟨plainId_quiet PySem.F.plain_min_loop _, ih (j + 1) i H2 _ x vb tb c oJ (by omega) hlt g2 I3 it2 hx rx (by omega) (hb.keep hij ht)⟩
/-- min(l, key=f) -/
theorem min_key {E : Value → Shared → Prop} {Q : Value → Shared → Prop} {H : Hp} {s : Shared} (hc : X.calm = true) (I : Inv X pins σ H s) (g : G H) (hl : ∀ H, G H → SqL X.K H l xs) (hne : 0 < xs.length) (key : KeyOk X pins σ f xs kf G)
    (hQ : ∀ i x u H1 s1, xs[i]? = some x → Best_min kf xs.length i → RelV x u → Inv X pins σ H1 s1 → G H1 → Q u s1) :
    wpAny (model X.prog X.w) X.A (call (.builtin "min") [.ref l] [(Str.ofString "key", .ref f)]) Q E s := by
  have nm : (toString "min" ++ toString ".loop" : String) = "min.loop" := by decide
  obtain ⟨its, rv, p, hz⟩ := I.list (hl H g)
  obtain ⟨ol, hol, _⟩ := id p.isList
  have ll : l < s.heap.objs.size := Heap.lt_size hol
  refine PyProof.Rows.kmk_tree PySem.F.kind_min PySem.F.plain_min PySem.F.entry_min (PyProof.Rows.kmk_min_key _ _) ?_
  show wpAny _ X.A.in1 (Builtin.Builtins.bindParams "min" ["key", "default"] 0 ⟨[], [(Str.ofString "key", .ref f)]⟩ >>= _) _ _ s
  refine wpAny_bind (wpAny_of_eq (show Builtin.Builtins.bindParams "min" ["key", "default"] 0 ⟨[], [(Str.ofString "key", .ref f)]⟩ = pure [some (.ref f), none] from rfl) (wpAny_bind (wpAny_pure ?_)))
  refine wpAny_bind (wpAny_pyIter_list p.isList (wpAny_bind (wpAny_newList ?_ (Nat.zero_le _))))
  rw [nm]
  generalize hA : s.heap.push { cls := .type "list_iterator", data := .fields #[.ref l, .int 0 0] } = hp1
  have z1 : hp1.objs.size = s.heap.objs.size + 1 := by rw [← hA]; exact size_push' ..
  have kp1 : ∀ b o, s.heap.get? b = some o → hp1.get? b = some o := fun b o e => by rw [← hA]; exact Heap.get?_push_of_some _ e
  have gI : hp1.get? s.heap.objs.size = some { cls := .type "list_iterator", data := .fields #[.ref l, .int 0 0] } := by rw [← hA]; exact Heap.get?_push_size _ rfl
  have wI := Own.of I (Nat.le_refl _)
  have wS : Own X pins hp1.objs.size := Own.of I (by omega)
  have hSI : hp1.objs.size ≠ s.heap.objs.size := by omega
  have nI : H s.heap.objs.size = none := I.hok.fresh (Nat.le_refl _)
  have nS : H hp1.objs.size = none := I.hok.fresh (by omega)
  have gI2 : (hp1.push (seqObj "list" #[] 0)).get? s.heap.objs.size = some { cls := .type "list_iterator", data := .fields #[.ref l, .int 0 0] } := Heap.get?_push_of_some _ gI
  have gS : (hp1.push (seqObj "list" #[] 0)).get? hp1.objs.size = some (seqObj "list" #[] 0) := Heap.get?_push_size _ rfl
  have J0 : Inv X pins σ H { s with heap := hp1.push (seqObj "list" #[] 0) } := I.kept (t' := s.toks) fun b o e => Heap.get?_push_of_some _ (kp1 b o e)
  obtain ⟨its', rv', p', hz'⟩ := J0.list (hl H g)
  have h0 : xs[0]? = some xs[0] := List.getElem?_eq_getElem hne
  obtain ⟨u, hu, ru⟩ := rv'.get h0
  refine wpAny_pure ⟨plainId_quiet PySem.F.plain_min_loop _, codeAny_builtin PySem.F.entry_min_loop ?_⟩
  rw [Around.under_plainId PySem.F.plain_min_loop _]
  show wpAny _ X.A.in1 (seqItems? (.ref hp1.objs.size) >>= _) _ _ _
  refine wpAny_bind (wpAny_seqItems gS rfl ?_)
  show wpAny _ X.A.in1 (tryCatch (pyNext (.ref s.heap.objs.size)) _ >>= _) _ _ _
  refine wpAny_bind (wpAny_tryCatch (wpAny_pyNext_list_item (i := 0) ⟨_, gI2, rfl, rfl⟩ p'.isList (x := u) (by simpa using hu) fun h' it' sb => ?_))
  obtain ⟨oJ, hJ, hJc, hJd⟩ := id it'
  have nJ : ∀ v, oJ.data ≠ .cell v := fun v z => by
    rw [hJd] at z
    cases z
  have kept : ∀ a q, a ≠ s.heap.objs.size → (hp1.push (seqObj "list" #[] 0)).get? a = some q → h'.get? a = some q := fun a q ha e => (sb.2 a ha).trans e
  have I1 := turn_on (tk := s.toks) J0 wI nI kept hJ nJ
  have wS' : Own X ((s.heap.objs.size, oJ) :: pins) hp1.objs.size := ⟨wS.loc, wS.fs, wS.new, wS.cell, fun q hq => by
    rcases List.mem_append.mp hq with z | z
    · exact wS.pin q (List.mem_append_left _ z)
    · rcases List.mem_cons.mp z with rfl | z
      · exact hSI.symm
      · exact wS.pin q (List.mem_append_right _ z)⟩
  have I2 : Inv X ((hp1.objs.size, seqObj "list" #[] 0) :: (s.heap.objs.size, oJ) :: pins) σ H { s with heap := h' } := pin_on I1 wS' (kept _ _ hSI gS) nS fun v z => by cases z
  show wpAny _ X.A.in1 (tryCatch (holding [u] (call (.ref f) [u])) _ >>= _) _ _ _
  refine wpAny_bind (wpAny_tryCatch (wpAny_holding (wpAny_mono (key 0 _ u _ H _ h0 ru (fun q hq => List.mem_cons_of_mem _ (List.mem_cons_of_mem _ hq)) I2 g) (fun w s2 he => ?_) fun _ _ z => z.elim)))
  obtain ⟨v2, H2, I3, r2, rfl, g2⟩ := he
  obtain ⟨t2, rfl⟩ := r2
  have qS := I3.pin (hp1.objs.size, seqObj "list" #[] 0) (List.mem_append_right _ (.head _))
  have qI := I3.pin (s.heap.objs.size, oJ) (List.mem_append_right _ (.tail _ (.head _)))
  have s1 := Heap.SameBut.update s2.heap hp1.objs.size (Obj.mapSeq fun _ => #[u, .int (kf 0) t2])
  obtain ⟨c2, hc2⟩ : ∃ c2, (s2.heap.update hp1.objs.size (Obj.mapSeq fun _ => #[u, .int (kf 0) t2])).get? hp1.objs.size = some (seqObj "list" #[u, .int (kf 0) t2] c2) := ⟨_, get?_update_seq qS.1 fun _ => #[u, .int (kf 0) t2]⟩
  show wpAny _ X.A.in1 (updateSeq hp1.objs.size (fun _ => #[u, .int (kf 0) t2]) >>= _) _ _ _
  refine wpAny_bind (wpAny_updateSeq qS.1 rfl ?_)
  rw [nm]
  have I4 := turn_on (tk := s2.toks) (pin_off (ps := (s.heap.objs.size, oJ) :: pins) I3 fun q hq => List.mem_cons_of_mem _ hq) wS' qS.2.1 (fun a q ha e => (s1.2 a ha).trans e) hc2 (fun v z => by cases z)
  refine wpAny_pure ⟨plainId_quiet PySem.F.plain_min_loop _, min_loop hc hl key wI wS hSI (Nat.ne_of_lt ll) hQ _ 0 0 H2 _ _ u t2 c2 oJ rfl hne g2 I4 ⟨oJ, (s1.2 _ hSI.symm).trans qI.1, hJc, hJd⟩ h0 ru (Nat.le_refl _) fun b hb => ?_⟩
  obtain rfl : b = 0 := by omega
  exact ⟨Int.le_refl _, fun z => absurd z (Nat.lt_irrefl _)⟩
end
end Wk
namespace Wk
open PySem PySem.Spec PyProof.Rows L2 Wd LamX

section
variable [Tbl] {X : Cx}
/-- what is asked behind the list v: a key of each item, then what follows with a best one -/
def kEnd_max (K : PySem.W.Frag) (tb : TE) (i : Nat) (σ : L2.St) (Q : VK) (v : V) (H1 : Hp) : Prop := Tabs Tbl.T H1 ∧ ∃ (l : Addr) (xs : List V) (kf : Nat → Int), v = .ref l ∧ 0 < xs.length ∧ SqL K H1 l xs ∧ ∀ H2, Ex H1 H2 →
  (∀ (j : Nat) (x : V) (H3 : Hp), xs[j]? = some x → Ex H2 H3 → tb (σ.set i (some x)) H3 fun v H4 => v = .int (kf j) ∧ Ex H2 H4) ∧ ∀ (j : Nat) (x : V) (H3 : Hp), xs[j]? = some x → Best_max kf xs.length j → Ex H2 H3 → Q x H3
/-- max(te, key=lambda: tb), the parameter in slot i -/
def tKey_max (K : PySem.W.Frag) (te tb : TE) (i : Nat) : TE := fun σ H Q => te σ H (kEnd_max K tb i σ Q)
theorem pe_key_max {K : PySem.W.Frag} {c Pt : Addr} {params : Arguments} {body e : Expr} {scope : Scope} {lpos kpos p pos : Pos} {x : Str} {i k : Nat} {te tb : TE} (hK : X.K = K) (hc : X.calm = true) (hg : Gl X "max") (hm : X.mg "max" = none) (TB : TabB X.base X.mg c Pt) (hcode : X.env.code = .ref c)
    (hT : (Pt, X.env.qual ++ "<lambda>") ∈ Tbl.T) (hu : ∀ q ∈ Tbl.T, q.1 = Pt → q.2 = X.env.qual ++ "<lambda>") (hr : Room (k + 2) X.A) (L : Lam1 X.env.scope scope x) (hN : X.N.Nodup) (hi : X.N[i]? = some x) (hdef : defaultsOf params X.env = ([], []))
    (hb : ∀ (q : Str) (cl : List (Str × Addr)) (pm cv ctv u : Value), bindArgs (PySem.W.kla_fn "<lambda>" q params body scope cl pm cv ctv) ⟨[u], []⟩ = pure [(x, u)]) (he : PE X e te)
    (hbody : ∀ (s : Shared) (H : Hp) (f c' : Addr), Room k (X.A.in1.deeper (lamEnv X scope s.heap.objs.size f c')) → PE (lamCx X X.A.in1 X.stack s H L2.E0 scope f c').nox body tb)
    (h0 : starEach [e] X.env = (false, eval e X.env) :: starEach [] X.env := by rfl) (h1 : backTo pos (starEach [e] X.env) = (false, eval e X.env) :: backTo pos (starEach [] X.env) := by rfl) (h2 : (backTo pos (starEach [e] X.env)).any (·.1) = false := by rfl)
    (h3 : (backToKw pos (keywordEach [⟨some "key", .Lambda params body scope lpos, kpos⟩] X.env)).all (·.1.isSome) = true := by rfl) (h4 : (backToKw pos (keywordEach [⟨some "key", .Lambda params body scope lpos, kpos⟩] X.env)).any (·.1.isNone) = false := by rfl)
    (h5 : (backToKw pos (keywordEach [⟨some "key", .Lambda params body scope lpos, kpos⟩] X.env)).filterMap (·.1) = [Str.ofString "key"] := by rfl) :
    PE X (.Call (.Name "max" p) [e] [⟨some "key", .Lambda params body scope lpos, kpos⟩] pos) (tKey_max K te tb i) := by
  subst hK
  refine ⟨fun ps0 s σ H Q I h => ?_⟩
  refine wpAny_Call_Name_kw (ld_blt I hg hm (show bootBuiltins "max" = some (.builtin "max") by decide +kernel) ?_)
  refine PyProof.Rows.callWith_kw (thn ((pa_cons he pa_nil h0).run pos ps0 s σ H (fun vs H1 => match vs with | [v] => kEnd_max X.K tb i σ Q v H1 | _ => False) I h) fun us s1 ⟨vs, H1, I1, r1, q1⟩ => ?_) h1 h2 h3 h4
  match vs, r1, q1 with
  | [v], .cons rv .nil, q1 =>
    obtain ⟨hTs, l, xs, kf, rfl, hne, hl, q1⟩ := q1
    obtain rfl := rv
    show wpAny _ _ (evalAll ((do let fv ← eval (.Lambda params body scope lpos) X.env; standAt pos; pure fv) :: (backToKw pos (keywordEach [] X.env)).map (·.2))) _ _ s1
    refine wpAny_evalAll_cons (wpAny_bind (lam_make2 I1 TB hcode hT hu hTs hdef (L.has I1.ok) fun f c' pm ctv H2 s2 I2 eN T2 hf hfn hfr hco => wpAny_bind (wpAny_standAt (wpAny_pure (wpAny_evalAll_nil ?_)))))
    rw [h5]
    have e12 : Ex H1 H2 := ⟨fun a o z n => eN a o z (NoB.of n), fun _ => T2⟩
    obtain ⟨qk, qe⟩ := q1 H2 e12
    have nfs : f ∉ X.fs := fun z => hfr (by
      rcases I2.ok.stk with w | ⟨w, hw⟩
      · rw [w]; exact z
      · rw [w]
        unfold frs
        rw [List.filterMap_cons, hw]
        exact List.mem_cons_of_mem _ z)
    have nloc : f ≠ X.env.locals := fun z => by
      obtain ⟨m, ⟨o, es, ep, ho, hd, _⟩, _⟩ := I2.loc
      rw [← z, hf] at ho
      cases ho
      cases hd
    have I3 : Inv X ((f, PySem.W.kla_obj "<lambda>" (X.env.qual ++ "<lambda>") params body scope (cloFrom X.env.cells scope.names []) pm c' ctv) :: ps0) σ H2 s2 := I2.pins_of fun q hq => by
      rcases List.mem_cons.mp hq with rfl | hq
      · exact ⟨hf, hfn, nloc, nfs, fun v z => by cases z⟩
      · exact I2.pin q (List.mem_append_right _ hq)
    refine max_key (xs := xs) (kf := kf) (G := fun H3 => Ex H2 H3) hc I3 (Ex.refl H2) (fun H3 g => ex_l (e12.trans g) hl) hne (fun j y u ps3 H3 s3 hy ry sub J g => ?_) fun j y u H3 s3 hy bst ry J g => ?_
    · have pf := J.pin _ (List.mem_append_right _ (sub _ (.head _)))
      refine lam_run (k := k) (i := i) (x := x) (v := y) (tb := tb) (A := X.A.in1) J L hN hi ry J.ok.frames hr.in1 ⟨pf.1, g.at hco⟩ (hb _ _ _ _ _ _) (hbody s3 H3 f c' (Room.deeper hr.in1 _)) ?_
      exact qk j y H3 hy g
    · exact ⟨y, H3, pin_off J fun q hq => List.mem_cons_of_mem _ hq, ry, qe j y H3 hy bst g⟩
end

section
variable [Tbl] {X : Cx}
/-- what is asked behind the list v: a key of each item, then what follows with a best one -/
def kEnd_min (K : PySem.W.Frag) (tb : TE) (i : Nat) (σ : L2.St) (Q : VK) (v : V) (H1 : Hp) : Prop := Tabs Tbl.T H1 ∧ ∃ (l : Addr) (xs : List V) (kf : Nat → Int), v = .ref l ∧ 0 < xs.length ∧ SqL K H1 l xs ∧ ∀ H2, Ex H1 H2 →
  (∀ (j : Nat) (x : V) (H3 : Hp), xs[j]? = some x → Ex H2 H3 → tb (σ.set i (some x)) H3 fun v H4 => v = .int (kf j) ∧ Ex H2 H4) ∧ ∀ (j : Nat) (x : V) (H3 : Hp), xs[j]? = some x → Best_min kf xs.length j → Ex H2 H3 → Q x H3
/-- min(te, key=lambda: tb), the parameter in slot i -/
def tKey_min (K : PySem.W.Frag) (te tb : TE) (i : Nat) : TE := fun σ H Q => te σ H (kEnd_min K tb i σ Q)
theorem pe_key_min {K : PySem.W.Frag} {c Pt : Addr} {params : Arguments} {body e : Expr} {scope : Scope} {lpos kpos p pos : Pos} {x : Str} {i k : Nat} {te tb : TE} (hK : X.K = K) (hc : X.calm = true) (hg : Gl X "min") (hm : X.mg "min" = none) (TB : TabB X.base X.mg c Pt) (hcode : X.env.code = .ref c)
    (hT : (Pt, X.env.qual ++ "<lambda>") ∈ Tbl.T) (hu : ∀ q ∈ Tbl.T, q.1 = Pt → q.2 = X.env.qual ++ "<lambda>") (hr : Room (k + 2) X.A) (L : Lam1 X.env.scope scope x) (hN : X.N.Nodup) (hi : X.N[i]? = some x) (hdef : defaultsOf params X.env = ([], []))
    (hb : ∀ (q : Str) (cl : List (Str × Addr)) (pm cv ctv u : Value), bindArgs (PySem.W.kla_fn "<lambda>" q params body scope cl pm cv ctv) ⟨[u], []⟩ = pure [(x, u)]) (he : PE X e te)
    (hbody : ∀ (s : Shared) (H : Hp) (f c' : Addr), Room k (X.A.in1.deeper (lamEnv X scope s.heap.objs.size f c')) → PE (lamCx X X.A.in1 X.stack s H L2.E0 scope f c').nox body tb)
    (h0 : starEach [e] X.env = (false, eval e X.env) :: starEach [] X.env := by rfl) (h1 : backTo pos (starEach [e] X.env) = (false, eval e X.env) :: backTo pos (starEach [] X.env) := by rfl) (h2 : (backTo pos (starEach [e] X.env)).any (·.1) = false := by rfl)
    (h3 : (backToKw pos (keywordEach [⟨some "key", .Lambda params body scope lpos, kpos⟩] X.env)).all (·.1.isSome) = true := by rfl) (h4 : (backToKw pos (keywordEach [⟨some "key", .Lambda params body scope lpos, kpos⟩] X.env)).any (·.1.isNone) = false := by rfl)
    (h5 : (backToKw pos (keywordEach [⟨some "key", .Lambda params body scope lpos, kpos⟩] X.env)).filterMap (·.1) = [Str.ofString "key"] := by rfl) :
    PE X (.Call (.Name "min" p) [e] [⟨some "key", .Lambda params body scope lpos, kpos⟩] pos) (tKey_min K te tb i) := by
  subst hK
  refine ⟨fun ps0 s σ H Q I h => ?_⟩
  refine wpAny_Call_Name_kw (ld_blt I hg hm (show bootBuiltins "min" = some (.builtin "min") by decide +kernel) ?_)
  refine PyProof.Rows.callWith_kw (thn ((pa_cons he pa_nil h0).run pos ps0 s σ H (fun vs H1 => match vs with | [v] => kEnd_min X.K tb i σ Q v H1 | _ => False) I h) fun us s1 ⟨vs, H1, I1, r1, q1⟩ => ?_) h1 h2 h3 h4
  match vs, r1, q1 with
  | [v], .cons rv .nil, q1 =>
    obtain ⟨hTs, l, xs, kf, rfl, hne, hl, q1⟩ := q1
    obtain rfl := rv
    show wpAny _ _ (evalAll ((do let fv ← eval (.Lambda params body scope lpos) X.env; standAt pos; pure fv) :: (backToKw pos (keywordEach [] X.env)).map (·.2))) _ _ s1
    refine wpAny_evalAll_cons (wpAny_bind (lam_make2 I1 TB hcode hT hu hTs hdef (L.has I1.ok) fun f c' pm ctv H2 s2 I2 eN T2 hf hfn hfr hco => wpAny_bind (wpAny_standAt (wpAny_pure (wpAny_evalAll_nil ?_)))))
    rw [h5]
    have e12 : Ex H1 H2 := ⟨fun a o z n => eN a o z (NoB.of n), fun _ => T2⟩
    obtain ⟨qk, qe⟩ := q1 H2 e12
    have nfs : f ∉ X.fs := fun z => hfr (by
      rcases I2.ok.stk with w | ⟨w, hw⟩
      · rw [w]; exact z
      · rw [w]
        unfold frs
        rw [List.filterMap_cons, hw]
        exact List.mem_cons_of_mem _ z)
    have nloc : f ≠ X.env.locals := fun z => by
      obtain ⟨m, ⟨o, es, ep, ho, hd, _⟩, _⟩ := I2.loc
      rw [← z, hf] at ho
      cases ho
      cases hd
    have I3 : Inv X ((f, PySem.W.kla_obj "<lambda>" (X.env.qual ++ "<lambda>") params body scope (cloFrom X.env.cells scope.names []) pm c' ctv) :: ps0) σ H2 s2 := I2.pins_of fun q hq => by
      rcases List.mem_cons.mp hq with rfl | hq
      · exact ⟨hf, hfn, nloc, nfs, fun v z => by cases z⟩
      · exact I2.pin q (List.mem_append_right _ hq)
    refine min_key (xs := xs) (kf := kf) (G := fun H3 => Ex H2 H3) hc I3 (Ex.refl H2) (fun H3 g => ex_l (e12.trans g) hl) hne (fun j y u ps3 H3 s3 hy ry sub J g => ?_) fun j y u H3 s3 hy bst ry J g => ?_
    · have pf := J.pin _ (List.mem_append_right _ (sub _ (.head _)))
      refine lam_run (k := k) (i := i) (x := x) (v := y) (tb := tb) (A := X.A.in1) J L hN hi ry J.ok.frames hr.in1 ⟨pf.1, g.at hco⟩ (hb _ _ _ _ _ _) (hbody s3 H3 f c' (Room.deeper hr.in1 _)) ?_
      exact qk j y H3 hy g
    · exact ⟨y, H3, pin_off J fun q hq => List.mem_cons_of_mem _ hq, ry, qe j y H3 hy bst g⟩
end
end Wk
/-! for i, x in enumerate(t), t a tuple. -/
namespace PySem
open Sem (wp)
open AutoSeq1 (wpAny_loadPart')
theorem wn_newT (tt : Addr) (items : Array Value) (n : Nat) (dct : Option Addr) (sl : Array (Option Value)) :
    Meets (Builtin.«enumerate.__new__» ⟨[.type "enumerate", .ref tt], []⟩) (fun _ R s => s.heap.get? tt = some { cls := .type "tuple", dict := dct, data := .seq items n, slots := sl } ∧
      R (.ok (.ret (.ref (s.heap.push { cls := .type "tuple_iterator", data := .fields #[.ref tt, .int 0 0] }).objs.size)))
        { s with heap := (s.heap.push { cls := .type "tuple_iterator", data := .fields #[.ref tt, .int 0 0] }).push { cls := .type "enumerate", data := .fields #[.none, .bool false, .ref s.heap.objs.size, rawInt 0, .none, .none] } }) :=
  .of_wp fun prog w A R s h => by
    obtain ⟨hp, g, d, tk, os⟩ := s
    obtain ⟨ht, h⟩ := h
    have hsb := sub_enumerate
    have hT : Heap.IsTuple (Shared.heap ⟨hp, g, d, tk, os⟩) tt items := ⟨_, ht, rfl, n, rfl⟩
    wp_walk using wpAny_loadPart' ht
    refine wpAny_stack_any fun stk => wpAny_pure ?_
    split
    · rename_i c _ _ _ _ _
      cases (c == Value.type "enumerate")
      · wp_walk using wpAny_loadPart' ht, wpAny_pyIter_tuple hT
        exact ⟨_, rfl, h⟩
      · wp_walk using wpAny_loadPart' ht, wpAny_pyIter_tuple hT
        exact ⟨_, rfl, h⟩
    · wp_walk using wpAny_loadPart' ht, wpAny_pyIter_tuple hT
      exact ⟨_, rfl, h⟩
section
variable {prog : Program} {w : World} {A : Around} {E : Value → Shared → Prop} {s : Shared}
theorem wn_enumT {tt : Addr} {items : Array Value} {Q : Value → Shared → Prop} (hT : s.heap.IsTuple tt items)
    (h : ∀ h', IsEnum h' (s.heap.objs.size + 1) s.heap.objs.size 0 .none → h'.IsTupleIter s.heap.objs.size tt 0 → h'.objs.size = s.heap.objs.size + 2 → (∀ b o, s.heap.get? b = some o → h'.get? b = some o) → Q (.ref (s.heap.objs.size + 1)) { s with heap := h' }) :
    wpAny (model prog w) A (call (.type "enumerate") [.ref tt]) Q E s := by
  obtain ⟨⟨c, dct, dt, sl⟩, ht, hc, n, hd⟩ := hT
  simp only at hc hd
  subst hc hd
  refine callType_new F.called_enumerate (by decide) (F.typeCall_enumerate_1 _) (F.newCall_enumerate_1 _) (fun obj => F.args_object_init_2 obj _) F.entry_enumerate_new (wn_newT tt items n dct sl) ⟨ht, ?_⟩
  have hz : (s.heap.push { cls := .type "tuple_iterator", data := .fields #[.ref tt, .int 0 0] }).objs.size = s.heap.objs.size + 1 := Heap.size_push ..
  show _ ∧ _
  rw [hz]
  generalize hg : s.heap.push { cls := .type "tuple_iterator", data := .fields #[.ref tt, .int 0 0] } = g1 at hz
  have gi : g1.get? s.heap.objs.size = some { cls := .type "tuple_iterator", data := .fields #[.ref tt, .int 0 0] } := by rw [← hg]; exact Heap.get?_push_size _ rfl
  have gk : ∀ b o, s.heap.get? b = some o → g1.get? b = some o := fun b o x => by rw [← hg]; exact Heap.get?_push_of_some _ x
  have he : IsEnum (g1.push { cls := .type "enumerate", data := .fields #[.none, .bool false, .ref s.heap.objs.size, rawInt 0, .none, .none] }) (s.heap.objs.size + 1) s.heap.objs.size 0 .none := by
    have k := Heap.get?_push_size g1 (o := { cls := .type "enumerate", data := .fields #[.none, .bool false, .ref s.heap.objs.size, rawInt 0, .none, .none] }) rfl
    rw [hz] at k
    exact k
  exact ⟨⟨_, he, rfl⟩, h _ he ⟨_, Heap.get?_push_of_some _ gi, rfl, rfl⟩ (by rw [Heap.size_push, hz]) fun b o x => Heap.get?_push_of_some _ (gk b o x)⟩
theorem wn_nextT_item {jt tt : Addr} {i : Nat} {items : Array Value} {x : Value} {Q : Value → Shared → Prop} (hit : s.heap.IsTupleIter jt tt i) (ht : s.heap.IsTuple tt items) (hx : items[i]? = some x)
    (hQ : ∀ h', h'.IsTupleIter jt tt (i + 1) → Heap.SameBut jt s.heap h' → Q x { s with heap := h' }) : wpAny (model prog w) A (Builtin.SmallTypes.nextOf (.ref jt)) Q E s := by
  obtain ⟨o, ho, hc, hd⟩ := id hit
  obtain ⟨ot, hot, _, nt, hdt⟩ := ht
  unfold Builtin.SmallTypes.nextOf
  refine wpAny_bind (wpAny_callSpecial?_slot (name := Str.ofString "__next__") hit.typeIs F.slot_tuple_iterator_next (wpAny_call_entry F.slot_tuple_iterator_next hit.typeIs F.entry_tuple_iterator_next ?_ (F.args_tuple_iterator_next_1 _)))
  show wpAny _ _ (field (.ref jt) 0 >>= _) _ _ s
  refine wpAny_bind (wpAny_field ho hd (x := .ref tt) rfl ?_)
  show wpAny _ _ (if (Value.ref tt == Value.none) = true then _ else _) _ _ s
  rw [if_neg (show ¬ ((Value.ref tt == Value.none) = true) from Bool.false_ne_true)]
  show wpAny _ _ (field (.ref jt) 1 >>= _) _ _ s
  refine wpAny_bind (wpAny_field ho hd (x := .int i 0) rfl ?_)
  show wpAny _ _ (seqItems? (.ref tt) >>= _) _ _ s
  refine wpAny_bind (wpAny_seqItems hot hdt ?_)
  simp only [Int.toNat_natCast, hx]
  refine wpAny_bind (wpAny_setField ho hd (by simp) (wpAny_pure ⟨x, rfl, wpAny_pure (hQ _ ?_ (Heap.SameBut.update ..))⟩))
  refine ⟨_, Heap.get?_update_self _ ho (Obj.isFreed_of_fields (Obj.data_mapFields hd _)), (Obj.cls_mapFields ..).trans hc, ?_⟩
  rw [Obj.data_mapFields hd]
  simp [rawInt]
theorem wn_nextT_end {jt tt : Addr} {i : Nat} {items : Array Value} {Q : Value → Shared → Prop} (hh : A.handled = none) (hit : s.heap.IsTupleIter jt tt i) (ht : s.heap.IsTuple tt items) (hx : items[i]? = none)
    (hE : ∀ h' e, Heap.ExtBut jt s.heap h' → (∃ o, h'.get? e = some o ∧ o.cls = .type "StopIteration") → E (.ref e) { s with heap := h' }) : wpAny (model prog w) A (Builtin.SmallTypes.nextOf (.ref jt)) Q E s := by
  obtain ⟨o, ho, hc, hd⟩ := id hit
  obtain ⟨ot, hot, _, nt, hdt⟩ := ht
  unfold Builtin.SmallTypes.nextOf
  refine wpAny_bind (wpAny_callSpecial?_slot (name := Str.ofString "__next__") hit.typeIs F.slot_tuple_iterator_next (wpAny_call_entry F.slot_tuple_iterator_next hit.typeIs F.entry_tuple_iterator_next ?_ (F.args_tuple_iterator_next_1 _)))
  show wpAny _ _ (field (.ref jt) 0 >>= _) _ _ s
  refine wpAny_bind (wpAny_field ho hd (x := .ref tt) rfl ?_)
  show wpAny _ _ (if (Value.ref tt == Value.none) = true then _ else _) _ _ s
  rw [if_neg (show ¬ ((Value.ref tt == Value.none) = true) from Bool.false_ne_true)]
  show wpAny _ _ (field (.ref jt) 1 >>= _) _ _ s
  refine wpAny_bind (wpAny_field ho hd (x := .int i 0) rfl ?_)
  show wpAny _ _ (seqItems? (.ref tt) >>= _) _ _ s
  refine wpAny_bind (wpAny_seqItems hot hdt ?_)
  simp only [Int.toNat_natCast, hx]
  refine wpAny_bind (wpAny_rule (wpAny_bind (wpAny_setField ho hd (by simp) ?_)))
  show wpAny _ _ (newExc (.type "StopIteration") [] >>= fun z => _) _ _ _
  refine wpAny_bind ?_
  simp only [newExc, newTuple]
  refine wpAny_bind (wpAny_newObj_type ?_ (by size_fits))
  refine wpAny_bind (m := firstArgMember _ _) (wpAny_of_eq (a := Value.none) (by first | rfl | (simp only [firstArgMember] <;> rfl)) (wpAny_newObj_type ?_ (by size_fits)))
  simp only [raiseNew]
  refine wpAny_bind (wpAny_handled ?_)
  first | rw [hh] | rw [show A.in1.handled = none from hh]
  exact wpAny_bind (wpAny_pure (wpAny_throw (hE _ _ (((Heap.SameBut.update ..).extBut.push _).push _) ⟨_, Heap.get?_push_size _ rfl, rfl⟩)))
end
theorem Draws.tup {prog : Program} {w : World} {A : Around} (hh : A.handled = none) (jt tt : Addr) (hne : tt ≠ jt) (items : Array Value) :
    Draws prog w A jt [jt, tt] items.size (fun i v => items[i]? = some v) (fun i h => h.IsTupleIter jt tt i ∧ h.IsTuple tt items) where
  live := fun _ _ st => let ⟨o, ho, _⟩ := st.1; ⟨o, ho⟩
  frame := fun _ _ _ st hk => ⟨st.1.at fun o e => hk jt (by simp) o e, let ⟨o, ho, k⟩ := st.2; ⟨o, hk tt (by simp) o ho, k⟩⟩
  item := fun i s Q E hi st hQ => wn_nextT_item st.1 st.2 (x := items[i]) (by simp [hi]) fun h' hit' hs' => hQ _ h' s.toks (by simp [hi]) ⟨hit', let ⟨o, ho, k⟩ := st.2; ⟨o, (hs'.2 tt hne).trans ho, k⟩⟩ hs'
  done := fun s Q E st hE => wn_nextT_end hh st.1 st.2 (by simp) hE
end PySem

namespace Wn
open PySem PySem.Spec PyProof.Rows L2 Wd
/-- the tuple at a, each item in a new pair behind its number -/
def Itn (K : PySem.W.Frag) (a : Addr) : It :=
  ⟨fun i H => ∃ (xs : List V) (x : V), SqT K H a xs ∧ xs[i]? = some x, fun i H v H' => ∃ t x, v = .ref t ∧ H t = none ∧ H' = upd H t (.tup [.int (i : Nat), x]) ∧ ∀ xs, SqT K H a xs → xs[i]? = some x, fun i H => ∃ xs : List V, SqT K H a xs ∧ xs.length = i⟩
theorem turn_enumT {P : Program} {w : World} {K : PySem.W.Frag} {elts : List Expr} {kk : Nat} {tpos : Pos} (a e jt : Addr) (hae : a ≠ e) (haj : a ≠ jt) :
    Turn P w K (.Tuple elts kk tpos) (Itn K a) [e, jt] e (fun i h => (∃ old, IsEnum h e jt ((i : Nat) : Int) old) ∧ h.IsTupleIter jt a i ∧ e ≠ jt) where
  mem := by simp
  obj := fun i h st b hb => by
    obtain ⟨⟨old, he⟩, ⟨o, ho, hc, hd⟩, _⟩ := st
    rcases (show b = e ∨ b = jt by simpa using hb) with rfl | rfl
    · exact ⟨_, he, fun v q => nomatch q⟩
    · refine ⟨o, ho, fun v q => ?_⟩
      rw [hd] at q
      cases q
  keep := fun i h h' st k => let ⟨⟨old, he⟩, hi, hne⟩ := st; ⟨⟨old, k e (by simp) _ he⟩, hi.at fun o q => k jt (by simp) o q, hne⟩
  item := by
    intro X hP hw hK hc i pins s σ H E I hf st hg
    subst hP hw hK
    obtain ⟨⟨old, he⟩, hit, hne⟩ := st
    obtain ⟨xs, x, hq, hx⟩ := hg
    obtain ⟨its, rv, p, hz⟩ := I.tuple hq
    obtain ⟨u, hu, ru⟩ := rv.get hx
    have hi : i < its.toArray.size := by
      have := (List.getElem?_eq_some_iff.mp hu).1
      simpa using this
    have hel : e < s.heap.objs.size := Heap.lt_size he
    have hjl : jt < s.heap.objs.size := by
      obtain ⟨_, q, _⟩ := hit
      exact Heap.lt_size q
    have D := Draws.tup (prog := X.prog) (w := X.w) (A := X.A.in1) (I.ok.hd hc) jt a haj its.toArray
    refine wpAny_pyNext_enum_itemD D he ⟨hit, p⟩ hi hne (by simp [hne, Ne.symm hae]) fun y h' tk hy ho hst hT hsz hk => ?_
    have hyu : y = u := by
      have h1 : its.toArray[i]? = some u := by simpa using hu
      rw [h1] at hy
      exact (Option.some.inj hy).symm
    subst hyu
    refine ⟨_, rfl, wpAny_letOwnedTupleGo_enum (s := { s with heap := h', toks := tk + 1 }) ho fun h'' he' sb => ?_⟩
    have hT2 : h''.get? s.heap.objs.size = some { cls := .type "tuple", data := .seq #[.int i tk, y] } := (sb.2 _ (Nat.ne_of_gt hel)).trans hT
    have new : ObjOk X.prog X.w (upd H s.heap.objs.size (.tup [.int (i : Nat), x])) h'' s.heap.objs.size (.tup [.int (i : Nat), x]) :=
      ⟨sz_of (by show 2 ≤ 100000; decide), [.int i tk, y], .cons ⟨_, rfl⟩ (.cons ru .nil), ⟨_, hT2, rfl, _, rfl⟩⟩
    have I1 : Inv X pins σ (upd H s.heap.objs.size (.tup [.int (i : Nat), x])) { s with heap := h'', toks := tk + 1 } :=
      I.turnedNew (ch := [e, jt]) (fun b ob hb q => (sb.2 b (fun z => hb (by simp [z]))).trans (hk b ob (fun z => hb (by simp [z])) (fun z => hb (by simp [z])) q)) hf (Nat.le_refl _) new
    refine ⟨.ref s.heap.objs.size, _, I1, rfl, ⟨_, x, rfl, I.hok.fresh (Nat.le_refl _), rfl, fun ys hy => by rw [I.tuple_inj hy hq]; exact hx⟩, ⟨⟨y, ?_⟩, hst.1.at fun o q => (sb.2 jt (Ne.symm hne)).trans q, hne⟩, fun b hb => ?_⟩
    · have e1 : ((i + 1 : Nat) : Int) = (i : Int) + 1 := by omega
      rw [e1]
      exact he'
    · have hb' : b < s.heap.objs.size := by
        rcases (show b = e ∨ b = jt by simpa using hb) with rfl | rfl
        · exact hel
        · exact hjl
      rw [upd_ne (Nat.ne_of_lt hb')]
      exact (hf b hb).1
  done := by
    intro X hP hw hK hc i pins s σ H E I hf st hg
    subst hP hw hK
    obtain ⟨⟨old, he⟩, hit, hne⟩ := st
    obtain ⟨xs, hq, hx⟩ := hg
    obtain ⟨its, rv, p, hz⟩ := I.tuple hq
    obtain ⟨f0, f1, f2, f3, f4, f5⟩ := hf jt (by simp)
    have hl : its.toArray.size = i := by
      have := rv.length
      simp
      omega
    have D := Draws.tup (prog := X.prog) (w := X.w) (A := X.A.in1) (I.ok.hd hc) jt a haj its.toArray
    refine wpAny_pyNext_enum_endD D he (by rw [hl]; exact ⟨hit, p⟩) fun h' eb => ?_
    exact ⟨rfl, I.turned (t' := s.toks) (fun b o hb q => eb b o hb q) f0 f1 f3 f4 f5⟩
  self := fun A i s Q E st h => let ⟨⟨_, he⟩, _⟩ := st; wpAny_pyIter_enum he h
def iEnumT (K : PySem.W.Frag) (ta : TA) : TI := fun σ H R => ta σ H fun vs H1 => ∃ a xs, vs = [.ref a] ∧ SqT K H1 a xs ∧ R (Itn K a) H1
theorem pi_enumT {X : Cx} {K : PySem.W.Frag} {e : Expr} {ta : TA} {p pos tpos : Pos} {elts : List Expr} {kk : Nat} (hK : X.K = K) (hg : Gl X "enumerate") (hm : X.mg "enumerate" = none) (ha : PA X [e] ta) (hs : starEach [e] X.env = [(false, eval e X.env)] := by rfl) :
    PI X (.Tuple elts kk tpos) (.Call (.Name "enumerate" p) [e] [] pos) (iEnumT K ta) := by
  subst hK
  refine ⟨fun pins s σ H R I h => ?_⟩
  refine Call_ (ld_blt I hg hm boot_enumerate (PyProof.Rows.callWith_type1 (thn (ha.run pos pins s σ H _ I h) fun us s1 ⟨vs, H1, I1, r1, q1⟩ => ?_) hs rfl))
  obtain ⟨a, xs, ex, hq, q⟩ := q1
  subst ex
  obtain rfl := Vals.ref1 r1
  obtain ⟨its, rv, p', hz⟩ := I1.tuple hq
  have hal : a < s1.heap.objs.size := p'.lt
  refine wn_enumT (show s1.heap.IsTuple a its.toArray from p') fun h' he hit hsz hk => wpAny_pyIter_enum he ?_
  have I2 : Inv X pins σ H1 { s1 with heap := h' } := I1.kept (t' := s1.toks) hk
  refine ⟨s1.heap.objs.size + 1, [s1.heap.objs.size + 1, s1.heap.objs.size], _, _, H1, rfl, I2, turn_enumT a (s1.heap.objs.size + 1) s1.heap.objs.size (Nat.ne_of_lt (Nat.lt_succ_of_lt hal)) (Nat.ne_of_lt hal), ⟨⟨.none, he⟩, hit, Nat.succ_ne_self _⟩, fun b hb => ?_, q⟩
  have hle : s1.heap.objs.size ≤ b := by
    rcases (show b = s1.heap.objs.size + 1 ∨ b = s1.heap.objs.size by simpa using hb) with rfl | rfl
    · exact Nat.le_succ _
    · exact Nat.le_refl _
  exact I1.fpOk hle (I1.hok.fresh hle)
end Wn
/-! Dicts with whole numbers as keys and data as values; comprehensions over their keys; max and min by a key; enumerate. -/
namespace Wt
open PySem PySem.Spec PyProof.Rows L2 Wd
/-- what stands at k, the pair put at k -/
def lookD {α : Type} (fd : List (Nat × α)) (k : Nat) : Option α := (fd.find? fun e => e.1 == k).map (·.2)
def putD {α : Type} (fd : List (Nat × α)) (k : Nat) (a : α) : List (Nat × α) := if (fd.any fun e => e.1 == k) = true then fd.map (fun e => if e.1 = k then (e.1, a) else e) else fd ++ [(k, a)]
inductive KvR (H : Hp) : List (Key × V) → List (Nat × PyData) → Prop
  | nil : KvR H [] []
  | cons {k : Nat} {v : V} {d : PyData} {kvs : List (Key × V)} {fd : List (Nat × PyData)} : Rp H v d → KvR H kvs fd → KvR H ((.inl (k : Int), v) :: kvs) ((k, d) :: fd)
section
variable {H H' : Hp} {kvs : List (Key × V)} {fd : List (Nat × PyData)}
theorem KvR.up (h : KvR H kvs fd) (e : Tx H H') : KvR H' kvs fd := by
  induction h with
  | nil => exact .nil
  | cons r _ ih => exact .cons (r.up e) ih
theorem KvR.len (h : KvR H kvs fd) : kvs.length = fd.length := by
  induction h with
  | nil => rfl
  | cons _ _ ih => simp [ih]
theorem KvR.keys (h : KvR H kvs fd) : kvs.map Prod.fst = (fd.map Prod.fst).map fun i : Nat => (Sum.inl (i : Int) : Key) := by
  induction h with
  | nil => rfl
  | cons _ _ ih => simp [ih]
theorem key_dec (k j : Nat) : decide ((Sum.inl (k : Int) : Key) = Sum.inl (j : Int)) = (k == j) := by
  by_cases h : k = j
  · subst h; simp
  · have : ¬ (Sum.inl (k : Int) : Key) = Sum.inl (j : Int) := fun e => h (by have := Sum.inl.inj e; omega)
    rw [decide_eq_false this]
    exact (beq_eq_false_iff_ne.mpr h).symm
theorem KvR.some {k : Nat} {d : PyData} (h : KvR H kvs fd) (e : lookD fd k = some d) : ∃ v, valV kvs (.inl (k : Int)) = some v ∧ Rp H v d := by
  induction h with
  | nil => cases e
  | @cons j v d' kvs fd r _ ih =>
    unfold lookD at e
    unfold valV
    rw [List.find?_cons] at e ⊢
    simp only [key_dec]
    cases hj : (j == k) with
    | true =>
      rw [hj] at e
      cases e
      exact ⟨v, rfl, r⟩
    | false =>
      rw [hj] at e
      exact ih e
theorem KvR.none {k : Nat} (h : KvR H kvs fd) (e : lookD fd k = none) : valV kvs (.inl (k : Int)) = none := by
  induction h with
  | nil => rfl
  | @cons j v d' kvs fd r _ ih =>
    unfold lookD at e
    unfold valV
    rw [List.find?_cons] at e ⊢
    simp only [key_dec]
    cases hj : (j == k) with
    | true =>
      rw [hj] at e
      cases e
    | false =>
      rw [hj] at e
      exact ih e
theorem KvR.isSome {k : Nat} (h : KvR H kvs fd) : (valV kvs (.inl (k : Int))).isSome = (lookD fd k).isSome := by
  cases e : lookD fd k with
  | none => rw [h.none e]; rfl
  | some d =>
    obtain ⟨v, hv, _⟩ := h.some e
    rw [hv]
    rfl
theorem KvR.any {k : Nat} (h : KvR H kvs fd) : (kvs.any fun kv => decide (kv.1 = (Sum.inl (k : Int) : Key))) = fd.any fun e => e.1 == k := by
  induction h with
  | nil => rfl
  | cons _ _ ih => rw [List.any_cons, List.any_cons, ih, key_dec]
theorem KvR.map {k : Nat} {v : V} {d : PyData} (h : KvR H kvs fd) (r : Rp H v d) : KvR H (kvs.map fun kv => if kv.1 = (Sum.inl (k : Int) : Key) then (kv.1, v) else kv) (fd.map fun e => if e.1 = k then (e.1, d) else e) := by
  induction h with
  | nil => exact .nil
  | @cons j v' d' kvs fd r' _ ih =>
    rw [List.map_cons, List.map_cons]
    by_cases e : j = k
    · rw [if_pos (show (Sum.inl (j : Int) : Key) = Sum.inl (k : Int) by rw [e]), if_pos e]
      exact .cons r ih
    · rw [if_neg (show ¬ (Sum.inl (j : Int) : Key) = Sum.inl (k : Int) from fun z => e (by have := Sum.inl.inj z; omega)), if_neg e]
      exact .cons r' ih
theorem KvR.app {k : Nat} {v : V} {d : PyData} (h : KvR H kvs fd) (r : Rp H v d) : KvR H (kvs ++ [(.inl (k : Int), v)]) (fd ++ [(k, d)]) := by
  induction h with
  | nil => exact .cons r .nil
  | cons r' _ ih => exact .cons r' ih
theorem KvR.put {k : Nat} {v : V} {d : PyData} (h : KvR H kvs fd) (r : Rp H v d) : KvR H (putK kvs (.inl (k : Int)) v) (putD fd k d) := by
  unfold putK putD
  rw [h.any]
  split
  · exact h.map r
  · exact h.app r
end
/-- a dict of data at p -/
def DAt (H : Hp) (p : Addr) (fd : List (Nat × PyData)) : Prop := ∃ kvs, H p = some (.dK kvs) ∧ KvR H kvs fd
theorem DAt.but [Tbl] {H H' : Hp} {p q : Addr} {fd : List (Nat × PyData)} (h : DAt H p fd) (b : But q H H') (t : Tx H H') (n : p ≠ q) : DAt H' p fd := by
  obtain ⟨kvs, h1, h2⟩ := h
  exact ⟨kvs, b.at h1 n, h2.up t⟩
theorem DAt.ne {H : Hp} {p q : Addr} {fd : List (Nat × PyData)} {ds : List PyData} (h : DAt H p fd) (k : LAt H q ds) : p ≠ q := by
  obtain ⟨kvs, h1, _⟩ := h
  obtain ⟨vs, h2, _⟩ := k
  exact ne_of h1 h2 fun z => by cases z
section
variable [Tbl] {K : PySem.W.Frag} {σ : L2.St} {H H' : Hp} {te tb ty td tv ta : TE} {t : TT} {p : Addr} {fd : List (Nat × PyData)} {d : PyData} {D : Ends} {tz : TS}
theorem DAt.ex (h : DAt H p fd) (e : Ex H H') : DAt H' p fd := by
  obtain ⟨kvs, h1, h2⟩ := h
  exact ⟨kvs, e.at h1, h2.up (.of e)⟩
/-- d[x], d a name -/
theorem ed_dget {i k : Nat} (hs : σ[i]? = some (some (.ref p))) (hp : DAt H p fd) (hk : ED ty σ H (.int (k : Int))) (hv : lookD fd k = some d) : ED (tDGet (tVar i) ty) σ H d := fun H1 x Q q =>
  ⟨_, hs, hk H1 x _ fun v H2 x2 r => by
    obtain ⟨kvs, h1, h2⟩ := hp.ex (x.trans x2)
    obtain ⟨w, h3, h4⟩ := h2.some hv
    exact ⟨p, w, rfl, .inl ⟨kvs, .inl (k : Int), .inl h1, r.intE, h3.symm⟩, q w H2 x2 h4⟩⟩
theorem et_din {i k : Nat} (hs : σ[i]? = some (some (.ref p))) (hp : DAt H p fd) (hk : ED ty σ H (.int (k : Int))) : EvT (tB (tDIn ty (tVar i))) σ H (lookD fd k).isSome := fun H1 x Q q =>
  hk H1 x _ fun v H2 x2 r => ⟨_, hs, by
    obtain ⟨kvs, h1, h2⟩ := hp.ex (x.trans x2)
    exact ⟨p, _, rfl, .inl ⟨kvs, .inl (k : Int), .inl h1, r.intE, rfl⟩, _, rfl, by rw [h2.isSome]; exact q H2 x2⟩⟩
theorem et_dnotin {i k : Nat} (hs : σ[i]? = some (some (.ref p))) (hp : DAt H p fd) (hk : ED ty σ H (.int (k : Int))) : EvT (tB (tDNotIn ty (tVar i))) σ H (!(lookD fd k).isSome) := fun H1 x Q q =>
  hk H1 x _ fun v H2 x2 r => ⟨_, hs, by
    obtain ⟨kvs, h1, h2⟩ := hp.ex (x.trans x2)
    exact ⟨p, _, rfl, .inl ⟨kvs, .inl (k : Int), .inl h1, r.intE, rfl⟩, _, rfl, by rw [h2.isSome]; exact q H2 x2⟩⟩
/-- d[x] = e -/
theorem sd_dput {H0 : Hp} {i k : Nat} (e0 : Ex H0 H) (h0 : Nw H0 p) (hs : σ[i]? = some (some (.ref p))) (hp : DAt H p fd) (hk : ∀ H1, Ex H H1 → ED ty σ H1 (.int (k : Int))) (hv : ED tv σ H d) (hz : fd.length < 100000)
    (q : ∀ H2, Ex H0 H2 → DAt H2 p (putD fd k d) → Tx H H2 → But p H H2 → D.nx σ H2) : sDPut (tVar i) ty tv D σ H := hv H (.refl H) _ fun v H1 x1 r => ⟨_, hs, hk H1 x1 H1 (.refl _) _ fun w H2 x2 r2 => by
  have x := x1.trans x2
  obtain ⟨kvs, h1, h2⟩ := hp.ex x
  refine ⟨p, _, rfl, .inl ⟨kvs, .inl (k : Int), h1, r2.intE, sz_lt (by rw [h2.len]; exact hz), rfl⟩, ?_⟩
  have t : Tx H2 (upd H2 p (.dK (putK kvs (.inl (k : Int)) v))) := Tx.upd h1 True.intro
  refine q _ (Ex.mut (e0.trans x) h0 h1) ⟨_, upd_same, (h2.put (r.ex x2)).up t⟩ ((Tx.of x).trans t) fun a o n z m => ?_
  rw [upd_ne n]
  exact x.at z m⟩
/-- len(d) -/
abbrev rLenD : List V → Hp → VK → Prop := fun xs H Q => ∃ a kvs, xs = [.ref a] ∧ H a = some (.dK kvs) ∧ Q (.int kvs.length) H
theorem tabs_upd {o o' : HO} (t : LamX.Tabs Tbl.T H) (h : H p = some o) (n : NoX o) : LamX.Tabs Tbl.T (upd H p o') := fun q hq => by
  obtain ⟨ps, a1, a2, a3⟩ := t q hq
  have n1 : q.1 ≠ p := fun z => by
    rw [z, h] at a1
    cases a1
    exact n
  refine ⟨ps, by rw [upd_ne n1]; exact a1, a2, fun pos cv hc => ?_⟩
  obtain ⟨c, rfl, b⟩ := a3 pos cv hc
  have n2 : c ≠ p := fun z => by
    rw [z, h] at b
    cases b
    exact n
  exact ⟨c, rfl, by rw [upd_ne n2]; exact b⟩
/-- [f for x in d if q] over the keys of a dict at a name -/
theorem el_keys {i j : Nat} {vs : List Nat} (q : Nat → Bool) (f : Nat → PyData) (hs : (σ : L2.St)[i]? = some (some (.ref p))) (hp : DAt H p fd) (hz : fd.length ≤ 40000) (hw : ∀ x, wipe ((wipe σ vs).set j (some x)) vs = wipe σ vs)
    (hg : ∀ (x : Nat) H1 H2, Ex H H1 → But p H1 H2 → Tx H1 H2 → x ∈ fd.map Prod.fst → EvT t ((wipe σ vs).set j (some (.int (x : Int)))) H2 (q x) ∧ (q x = true → ED te ((wipe σ vs).set j (some (.int (x : Int)))) H2 (f x))) :
    EL (tLockE (tLc (iKeys (tVar i)) (gName j) t te vs)) σ H (((fd.map Prod.fst).filter q).map f) := fun H1 x1 Q k => by
  obtain ⟨kvs, h1, h2⟩ := hp.ex x1
  have hkeys := h2.keys
  generalize hks : fd.map Prod.fst = ks at hkeys hg k ⊢
  have hlen : ks.length = kvs.length := by rw [← hks, List.length_map, h2.len]
  have hkz : ks.length ≤ 40000 := by rw [← hks, List.length_map]; exact hz
  refine ⟨p, .dK kvs, h1, True.intro, fun od => ?_⟩
  have tl : Tx H1 (upd H1 p (.frz od (.dK kvs))) := Tx.upd h1 True.intro
  have bl : But p H1 (upd H1 p (.frz od (.dK kvs))) := fun a o n z _ => by rw [upd_ne n]; exact z
  have hfz : upd H1 p (.frz od (.dK kvs)) p = some (.frz od (.dK kvs)) := upd_same
  have htb : LamX.Tabs Tbl.T H1 → LamX.Tabs Tbl.T (upd H1 p (.frz od (.dK kvs))) := fun t => tabs_upd t h1 True.intro
  generalize upd H1 p (.frz od (.dK kvs)) = Hl at tl bl hfz htb
  refine ⟨_, hs, p, od, rfl, .inl ⟨kvs, hfz, fun Dl hD => ?_⟩⟩
  refine lc_it walk_keys (fun m H' => Cwd Hl Dl (((ks.take m).filter q).map f) H') ⟨.of hD, Ex.new hD, [], upd_same, .nil⟩ (fun m H' _ c => c.2.1.at hfz) (fun m x G G' hm c y => ?_) (fun H' c => ?_)
  · obtain ⟨rfl, kk, v, hkv, rfl⟩ := y
    have hkm : (kvs.map Prod.fst)[m]? = some kk := by rw [List.getElem?_map, hkv]; rfl
    rw [hkeys, List.getElem?_map] at hkm
    cases hc : ks[m]? with
    | none => rw [hc] at hkm; cases hkm
    | some b =>
      rw [hc] at hkm
      obtain rfl : (Sum.inl (b : Int) : Key) = kk := Option.some.inj hkm
      have g := hg b H1 Hl x1 bl tl (List.mem_of_getElem? hc)
      refine ⟨hw _, ?_⟩
      have hl : (((ks.take m).filter q).map f).length < 100000 := by
        have a1 := List.length_filter_le q (ks.take m)
        have a2 : (ks.take m).length ≤ ks.length := by rw [List.length_take]; omega
        rw [List.length_map]
        omega
      refine cwd_turn (es := ((ks.take m).filter q).map f) (p := q b) (y := f b) c hl g.1 g.2 (fun hp H2 c2 => ?_) (fun hp H2 c2 => ?_)
      · rw [filt_yes hc hp, List.map_append]
        exact c2
      · rw [filt_no hc hp]
        exact c2
  · have e : ks.take kvs.length = ks := by rw [← hlen]; exact List.take_length
    rw [e] at c
    obtain ⟨c1, c2, c3⟩ := c
    refine ⟨c2.at hfz, ?_⟩
    obtain ⟨vs', l1, l2⟩ := c3
    have npD : Dl ≠ p := ne_of l1 (c2.at hfz) fun z => by cases z
    have t2 : Tx H' (upd H' p (.dK kvs)) := Tx.upd (c2.at hfz) True.intro
    refine k Dl (upd H' p (.dK kvs)) (fun o z n => c1 o (bl.at z npD n) n) ⟨fun a o z n => ?_, fun tt => tabs_upd (c2.tabs (htb tt)) (c2.at hfz) True.intro⟩ ⟨vs', by rw [upd_ne npD]; exact l1, l2.up t2⟩
    by_cases ha : a = p
    · subst ha
      rw [h1] at z
      cases z
      exact upd_same
    · rw [upd_ne ha]
      exact c2.at (bl.at z ha n) n
/-- max(l, key=lambda x: ..), min(..) of a new list of whole numbers -/
theorem ek_max {i : Nat} {ns : List Nat} (tbs : LamX.Tabs Tbl.T H) (hne : ns ≠ []) (hl : EL te σ H (ns.map fun x : Nat => PyData.int (x : Int))) (kf : Nat → Int) (hk : ∀ x ∈ ns, ∀ H1, Ex H H1 → ED tb (σ.set i (some (.int (x : Int)))) H1 (.int (kf x))) :
    EP (Wk.tKey_max K te tb i) σ H (fun d => ∃ x ∈ ns, d = .int (x : Int) ∧ ∀ y ∈ ns, kf y ≤ kf x) := fun H1 x1 Q q => hl H1 x1 _ fun p H2 hp x2 hL => by
  obtain ⟨xs, h1, h2⟩ := hL
  have e : ns.map (fun x : Nat => PyData.int (x : Int)) = (ns.map fun x : Nat => (x : Int)).map PyData.int := by rw [List.map_map]; rfl
  rw [e] at h2
  rw [h2.intsE, List.map_map] at h1
  have at_ : ∀ (j : Nat) (x : V), (ns.map (V.int ∘ fun x : Nat => (x : Int)))[j]? = some x → ∃ m, ns[j]? = some m ∧ x = .int (m : Int) := fun j x hx => by
    rw [List.getElem?_map] at hx
    cases hn : ns[j]? with
    | none => rw [hn] at hx; cases hx
    | some m =>
      rw [hn] at hx
      exact ⟨m, rfl, (Option.some.inj hx).symm⟩
  refine ⟨(x1.trans x2).tabs tbs, p, _, fun j => kf (ns.getD j 0), rfl, by rw [List.length_map]; exact List.length_pos_iff.mpr hne, SqL.of h1, fun H3 x3 => ⟨fun j x H4 hx x4 => ?_, fun j x H4 hx best x4 => ?_⟩⟩
  · obtain ⟨m, hm, rfl⟩ := at_ j x hx
    refine hk m (List.mem_of_getElem? hm) H4 (((x1.trans x2).trans x3).trans x4) H4 (.refl _) _ fun v H5 x5 r => ⟨?_, x4.trans x5⟩
    rw [r.intE]
    have e1 : ns.getD j 0 = m := by simp [hm]
    show V.int (kf m) = V.int (kf (ns.getD j 0))
    rw [e1]
  · obtain ⟨m, hm, rfl⟩ := at_ j x hx
    refine q _ _ H4 ((x2.trans x3).trans x4) (.int _) ⟨m, List.mem_of_getElem? hm, rfl, fun y hy => ?_⟩
    obtain ⟨b, hb, eb⟩ := List.getElem_of_mem hy
    have k := (best b (by rw [List.length_map]; exact hb)).1
    have e1 : ns.getD j 0 = m := by simp [hm]
    have e2 : ns.getD b 0 = y := by simp [hb, eb]
    have k : kf (ns.getD b 0) ≤ kf (ns.getD j 0) := k
    rw [e1, e2] at k
    exact k
end
/-- the walk of enumerate(t) -/
theorem walk_enumT {K : PySem.W.Frag} {a : Addr} {xs : List V} : Walk (Wn.Itn K a) xs.length (fun H => SqT K H a xs) (YPair (fun i => some (.int (i : Nat))) (fun i => xs[i]?)) := by
  refine ⟨fun i _ hi q => ⟨xs, xs[i], q, by simp [hi]⟩, fun _ q => ⟨xs, q, rfl⟩, fun i H v H' _ q y => ?_⟩
  obtain ⟨t, x, h1, h2, h3, h4⟩ := y
  exact ⟨t, .int (i : Nat), x, h1, h2, h3, rfl, h4 xs q⟩
end Wt
/-! The strongest chains: what the growing of the found names keeps, and what it tells at its end. Plain mathematics. -/
namespace Wg
open Wt
/-! ### pairs by keys -/
section
variable {α : Type}
def keys (fd : List (Nat × α)) : List Nat := fd.map Prod.fst
theorem look_nil {x : Nat} : lookD ([] : List (Nat × α)) x = none := rfl
theorem look_cons (k x : Nat) (a : α) (fd : List (Nat × α)) : lookD ((k, a) :: fd) x = if k = x then some a else lookD fd x := by
  unfold lookD
  rw [List.find?_cons]
  by_cases h : k = x
  · subst h; simp
  · have : (k == x) = false := beq_eq_false_iff_ne.mpr h
    simp [this, h]
theorem look_mem : ∀ {fd : List (Nat × α)} {x : Nat}, x ∈ keys fd ↔ ∃ a, lookD fd x = some a
  | [], x => by simp [keys, lookD]
  | (k, a) :: fd, x => by
    rw [look_cons]
    have ih := look_mem (fd := fd) (x := x)
    unfold keys at ih ⊢
    by_cases h : k = x
    · subst h; simp
    · rw [if_neg h, ← ih]
      simp [Ne.symm h]
theorem look_none {fd : List (Nat × α)} {x : Nat} : x ∉ keys fd ↔ lookD fd x = none := by
  rw [look_mem]
  cases lookD fd x <;> simp
theorem any_key : ∀ {fd : List (Nat × α)} {k : Nat}, (fd.any fun e => e.1 == k) = true ↔ k ∈ keys fd
  | [], k => by simp [keys]
  | (j, a) :: fd, k => by
    have ih := any_key (fd := fd) (k := k)
    unfold keys at ih ⊢
    rw [List.any_cons, Bool.or_eq_true, ih, beq_iff_eq, List.map_cons, List.mem_cons]
    exact ⟨Or.imp_left Eq.symm, Or.imp_left Eq.symm⟩
theorem look_map (k x : Nat) (a : α) : ∀ fd : List (Nat × α), k ∈ keys fd → lookD (fd.map fun e => if e.1 = k then (e.1, a) else e) x = if x = k then some a else lookD fd x
  | [], h => by simp [keys] at h
  | (j, b) :: fd, h => by
    rw [List.map_cons]
    by_cases hj : j = k
    · rw [if_pos hj, look_cons, look_cons]
      subst hj
      by_cases hx : j = x
      · subst hx; simp
      · rw [if_neg hx, if_neg hx, if_neg (Ne.symm hx)]
        by_cases hm : j ∈ keys fd
        · rw [look_map j x a fd hm, if_neg (Ne.symm hx)]
        · have e : (fd.map fun e => if e.1 = j then (e.1, a) else e) = fd := by
            refine (List.map_congr_left fun e he => ?_).trans (List.map_id fd)
            have : e.1 ≠ j := fun z => hm (z ▸ List.mem_map.mpr ⟨e, he, rfl⟩)
            simp [this]
          rw [e]
    · rw [if_neg hj, look_cons, look_cons]
      have hm : k ∈ keys fd := by
        unfold keys at h ⊢
        rw [List.map_cons, List.mem_cons] at h
        exact h.resolve_left (Ne.symm hj)
      rw [look_map k x a fd hm]
      by_cases hx : j = x
      · subst hx
        rw [if_pos rfl, if_neg hj]
        simp
      · rw [if_neg hx, if_neg hx]
theorem look_app (k x : Nat) (a : α) : ∀ fd : List (Nat × α), k ∉ keys fd → lookD (fd ++ [(k, a)]) x = if x = k then some a else lookD fd x
  | [], _ => by
    rw [List.nil_append, look_cons, look_nil]
    by_cases h : k = x
    · subst h; simp
    · rw [if_neg h, if_neg (Ne.symm h)]
  | (j, b) :: fd, h => by
    unfold keys at h
    rw [List.map_cons, List.mem_cons, not_or] at h
    rw [List.cons_append, look_cons, look_cons, look_app k x a fd h.2]
    by_cases hx : j = x
    · subst hx
      rw [if_pos rfl, if_neg (Ne.symm h.1)]
      simp
    · rw [if_neg hx, if_neg hx]
theorem look_put (fd : List (Nat × α)) (k x : Nat) (a : α) : lookD (putD fd k a) x = if x = k then some a else lookD fd x := by
  unfold putD
  by_cases h : k ∈ keys fd
  · rw [if_pos (any_key.mpr h), look_map k x a fd h]
  · rw [if_neg (fun z => h (any_key.mp z)), look_app k x a fd h]
theorem keys_put (fd : List (Nat × α)) (k : Nat) (a : α) : keys (putD fd k a) = if k ∈ keys fd then keys fd else keys fd ++ [k] := by
  unfold putD
  by_cases h : k ∈ keys fd
  · rw [if_pos (any_key.mpr h), if_pos h]
    unfold keys
    rw [List.map_map]
    refine List.map_congr_left fun e _ => ?_
    by_cases z : e.1 = k <;> simp [z]
  · rw [if_neg (fun z => h (any_key.mp z)), if_neg h]
    unfold keys
    rw [List.map_append]
    rfl
theorem put_map {β : Type} (g : α → β) (fd : List (Nat × α)) (k : Nat) (a : α) : (putD fd k a).map (fun e => (e.1, g e.2)) = putD (fd.map fun e => (e.1, g e.2)) k (g a) := by
  unfold putD
  have e : ((fd.map fun e => (e.1, g e.2)).any fun e => e.1 == k) = fd.any fun e => e.1 == k := by
    rw [List.any_map]
    rfl
  rw [e]
  split
  · rw [List.map_map, List.map_map]
    refine List.map_congr_left fun e _ => ?_
    by_cases z : e.1 = k <;> simp [z]
  · rw [List.map_append]
    rfl
theorem look_gmap {β : Type} (g : α → β) : ∀ (fd : List (Nat × α)) (k : Nat), lookD (fd.map fun e => (e.1, g e.2)) k = (lookD fd k).map g
  | [], _ => rfl
  | (j, a) :: fd, k => by
    rw [List.map_cons, look_cons, look_cons, look_gmap g fd k]
    split <;> rfl
end

/-! ### reach: chains all of whose leads are at least t -/
inductive Rch (L : Nat → Nat → Int) (n : Nat) (t : Int) (a : Nat) : Nat → Prop
  | refl : Rch L n t a a
  | step {b c : Nat} : Rch L n t a b → c < n → t ≤ L b c → Rch L n t a c
abbrev Fd := List (Nat × (Int × Option Nat))
structure DI (L : Nat → Nat → Int) (n one : Nat) (M : Int) (D : List Nat) (R : Nat → Nat → Prop) (fd : Fd) : Prop where
  nd : (keys fd).Nodup
  lt : ∀ x ∈ keys fd, x < n
  st : lookD fd one = some (M, none)
  sub : ∀ x ∈ D, x ∈ keys fd
  dnd : D.Nodup
  one0 : D = [] → keys fd = [one]
  one1 : D ≠ [] → one ∈ D
  prev : ∀ x p r, lookD fd x = some (p, r) → x ≠ one → ∃ y q s, r = some y ∧ lookD fd y = some (q, s) ∧ y ∈ D ∧ p = min q (L y x) ∧ 0 < p ∧ ∀ pre post, D = pre ++ x :: post → y ∈ pre
  big : ∀ x p r, x ∈ D → lookD fd x = some (p, r) → ∀ y q s, y ∉ D → lookD fd y = some (q, s) → q ≤ p
  rel : ∀ x y, R x y → x ∈ D ∧ ∀ p r, lookD fd x = some (p, r) → 0 < min p (L x y) → ∃ q s, lookD fd y = some (q, s) ∧ min p (L x y) ≤ q
section
variable {L : Nat → Nat → Int} {n one : Nat} {M : Int} {D : List Nat} {R : Nat → Nat → Prop} {fd : Fd}
theorem DI.start (h : one < n) : DI L n one M [] (fun _ _ => False) [(one, (M, none))] where
  nd := by simp [keys]
  lt := by simp [keys]; exact h
  st := by simp [look_cons]
  sub := by simp
  dnd := List.nodup_nil
  one0 := fun _ => rfl
  one1 := fun z => absurd rfl z
  prev := fun x p r e hx => by
    rw [look_cons, look_nil, if_neg (Ne.symm hx)] at e
    cases e
  big := fun x p r hx => nomatch hx
  rel := fun _ _ z => z.elim
theorem DI.pick {here : Nat} (d : DI L n one M D R fd) (hk : here ∈ keys fd) (hn : here ∉ D) (hm : ∀ y q s p r, y ∉ D → lookD fd y = some (q, s) → lookD fd here = some (p, r) → q ≤ p) : DI L n one M (D ++ [here]) R fd where
  nd := d.nd
  lt := d.lt
  st := d.st
  sub := fun x hx => by
    rcases List.mem_append.mp hx with h | h
    · exact d.sub x h
    · rw [List.mem_singleton.mp h]; exact hk
  dnd := by
    rw [List.nodup_append]
    exact ⟨d.dnd, by simp, fun a ha b hb => by rw [List.mem_singleton.mp hb]; exact fun z => hn (z ▸ ha)⟩
  one0 := fun z => by simp at z
  one1 := fun _ => by
    by_cases h : D = []
    · rw [d.one0 h, List.mem_singleton] at hk
      simp [hk]
    · exact List.mem_append_left _ (d.one1 h)
  prev := fun x p r e hx => by
    obtain ⟨y, q, s, h1, h2, h3, h4, h5, h6⟩ := d.prev x p r e hx
    refine ⟨y, q, s, h1, h2, List.mem_append_left _ h3, h4, h5, fun pre post hD => ?_⟩
    by_cases hxh : x = here
    · subst hxh
      -- x is the last: all of D stands ahead
      have hpost : post = [] := by
        rcases List.eq_nil_or_concat post with h | ⟨l, z, h⟩
        · exact h
        · rw [h] at hD
          have e2 : (pre ++ x :: (l ++ [z])) = (pre ++ x :: l) ++ [z] := by simp
          rw [List.concat_eq_append] at hD
          rw [e2] at hD
          have := (List.append_inj' hD rfl).1
          exact absurd (by rw [this]; simp) hn
      subst hpost
      have := (List.append_inj' hD rfl).1
      rw [← this]
      exact h3
    · have hpost : post ≠ [] := fun z => by
        subst z
        have := (List.append_inj' hD rfl).2
        exact hxh (by simpa using this.symm)
      rcases List.eq_nil_or_concat post with h | ⟨l, z, h⟩
      · exact absurd h hpost
      · rw [h] at hD
        rw [List.concat_eq_append] at hD
        have e2 : (pre ++ x :: (l ++ [z])) = (pre ++ x :: l) ++ [z] := by simp
        rw [e2] at hD
        exact h6 pre l (List.append_inj' hD rfl).1
  big := fun x p r hx e y q s hy e2 => by
    have hy' : y ∉ D := fun z => hy (List.mem_append_left _ z)
    rcases List.mem_append.mp hx with h | h
    · exact d.big x p r h e y q s hy' e2
    · rw [List.mem_singleton.mp h] at e
      exact hm y q s p r hy' e2 e
  rel := fun x y h => ⟨List.mem_append_left _ (d.rel x y h).1, (d.rel x y h).2⟩
/-- what the turn of the inner loop makes of the pairs -/
def str (fd : Fd) (x : Nat) : Int := ((lookD fd x).map (·.1)).getD 0
def news (fd : Fd) (k : Nat) (pw : Int) : Bool := decide (0 < pw) && (!(lookD fd k).isSome || decide (str fd k < pw))
theorem news_iff {fd : Fd} {k : Nat} {pw : Int} : news fd k pw = true ↔ 0 < pw ∧ (∀ q s, lookD fd k = some (q, s) → q < pw) := by
  unfold news str
  cases lookD fd k with
  | none => simp
  | some z =>
    obtain ⟨q, s⟩ := z
    simp
def relax (L : Nat → Nat → Int) (here : Nat) (ph : Int) (k : Nat) (fd : Fd) : Fd :=
  if news fd k (min ph (L here k)) = true then putD fd k (min ph (L here k), some here) else fd
theorem DI.relax {here k : Nat} {ph : Int} {rh : Option Nat} (d : DI L n one M D R fd) (hh : here ∈ D) (hl : lookD fd here = some (ph, rh)) (hmin : ∀ x p r, x ∈ D → lookD fd x = some (p, r) → ph ≤ p) (hk : k < n) :
    DI L n one M D (fun x y => R x y ∨ (x = here ∧ y = k)) (relax L here ph k fd) ∧ (∀ x ∈ D, lookD (relax L here ph k fd) x = lookD fd x) := by
  have hD : D ≠ [] := fun z => by rw [z] at hh; cases hh
  have h1 := d.one1 hD
  by_cases hb : news fd k (min ph (L here k)) = true
  · have e : Wg.relax L here ph k fd = putD fd k (min ph (L here k), some here) := if_pos hb
    have hc := news_iff.mp hb
    rw [e]
    clear e
    have hkD : k ∉ D := fun z => by
      obtain ⟨⟨q, s⟩, hq⟩ := look_mem.mp (d.sub k z)
      have a1 := hc.2 q s hq
      have a2 := hmin k q s z hq
      omega
    have same : ∀ x, x ∈ D → lookD (putD fd k (min ph (L here k), some here)) x = lookD fd x := fun x hx => by
      rw [look_put, if_neg (fun z : x = k => hkD (z ▸ hx))]
    refine ⟨?_, same⟩
    have look : ∀ x p r, lookD (putD fd k (min ph (L here k), some here)) x = some (p, r) → (x = k ∧ p = min ph (L here k) ∧ r = some here) ∨ (x ≠ k ∧ lookD fd x = some (p, r)) := fun x p r e => by
      rw [look_put] at e
      by_cases hx : x = k
      · rw [if_pos hx] at e
        cases e
        exact .inl ⟨hx, rfl, rfl⟩
      · rw [if_neg hx] at e
        exact .inr ⟨hx, e⟩
    refine ⟨?_, fun x hx => ?_, ?_, fun x hx => ?_, d.dnd, fun z => absurd z hD, fun _ => h1, fun x p r e hx => ?_, fun x p r hx e y q s hy e2 => ?_, fun x y h => ?_⟩
    · rw [keys_put]
      by_cases hm : k ∈ keys fd
      · rw [if_pos hm]; exact d.nd
      · rw [if_neg hm, List.nodup_append]
        exact ⟨d.nd, by simp, fun a ha b hb => by rw [List.mem_singleton.mp hb]; exact fun z => hm (z ▸ ha)⟩
    · rw [keys_put] at hx
      by_cases hm : k ∈ keys fd
      · rw [if_pos hm] at hx; exact d.lt x hx
      · rw [if_neg hm] at hx
        rcases List.mem_append.mp hx with h | h
        · exact d.lt x h
        · rw [List.mem_singleton.mp h]; exact hk
    · rw [same one h1]; exact d.st
    · rw [look_mem, same x hx, ← look_mem]; exact d.sub x hx
    · rcases look x p r e with ⟨rfl, rfl, rfl⟩ | ⟨hxk, e⟩
      · refine ⟨here, ph, rh, rfl, by rw [same here hh]; exact hl, hh, rfl, hc.1, fun pre post z => ?_⟩
        exact absurd (by rw [z]; simp) hkD
      · obtain ⟨y, q, s, k1, k2, k3, k4⟩ := d.prev x p r e hx
        exact ⟨y, q, s, k1, by rw [same y k3]; exact k2, k3, k4⟩
    · rw [same x hx] at e
      rcases look y q s e2 with ⟨rfl, rfl, rfl⟩ | ⟨hyk, e2⟩
      · have := hmin x p r hx e
        omega
      · exact d.big x p r hx e y q s hy e2
    · rcases h with h | ⟨rfl, rfl⟩
      · obtain ⟨g1, g2⟩ := d.rel x y h
        refine ⟨g1, fun p r e hp => ?_⟩
        rw [same x g1] at e
        obtain ⟨q, s, g3, g4⟩ := g2 p r e hp
        rw [look_put]
        by_cases hy : y = k
        · subst hy
          have := hc.2 q s g3
          exact ⟨_, _, if_pos rfl, by omega⟩
        · exact ⟨q, s, by rw [if_neg hy]; exact g3, g4⟩
      · refine ⟨hh, fun p r e hp => ?_⟩
        rw [same x hh, hl] at e
        cases e
        exact ⟨_, _, by rw [look_put, if_pos rfl], Int.le_refl _⟩
  · have e : Wg.relax L here ph k fd = fd := if_neg hb
    have hc : ¬ (0 < min ph (L here k) ∧ ∀ q s, lookD fd k = some (q, s) → q < min ph (L here k)) := fun z => hb (news_iff.mpr z)
    rw [e]
    clear e
    refine ⟨⟨d.nd, d.lt, d.st, d.sub, d.dnd, d.one0, d.one1, d.prev, d.big, fun x y h => ?_⟩, fun x _ => rfl⟩
    rcases h with h | ⟨rfl, rfl⟩
    · exact d.rel x y h
    · refine ⟨hh, fun p r e hp => ?_⟩
      have e3 := hl.symm.trans e
      have e4 : ph = p := congrArg Prod.fst (Option.some.inj e3)
      rw [← e4] at hp ⊢
      cases hq : lookD fd y with
      | none => exact (hc ⟨hp, fun q s z => by rw [hq] at z; cases z⟩).elim
      | some z =>
        obtain ⟨q, s⟩ := z
        refine ⟨q, s, rfl, ?_⟩
        by_cases hlt : q < min ph (L x y)
        · exact (hc ⟨hp, fun q' s' z => by rw [hq] at z; cases z; exact hlt⟩).elim
        · omega
/-- the end: all names found are done -/
structure Gr (L : Nat → Nat → Int) (n one : Nat) (M : Int) (fd : Fd) : Prop where
  ex : ∃ D, DI L n one M D (fun x y => x ∈ D ∧ y < n) fd ∧ ∀ x ∈ keys fd, x ∈ D
theorem nodup_sub_len : ∀ {D l : List Nat}, D.Nodup → (∀ x ∈ D, x ∈ l) → D.length ≤ l.length
  | [], _, _, _ => Nat.zero_le _
  | a :: D, l, hn, hs => by
    rw [List.nodup_cons] at hn
    have ha := hs a List.mem_cons_self
    have h := nodup_sub_len (D := D) (l := l.erase a) hn.2 fun x hx => by
      have : x ≠ a := fun z => hn.1 (z ▸ hx)
      exact (List.mem_erase_of_ne this).mpr (hs x (List.mem_cons_of_mem _ hx))
    rw [List.length_erase_of_mem ha] at h
    have : 0 < l.length := List.length_pos_of_mem ha
    simp only [List.length_cons]
    omega
theorem nodup_full {D l : List Nat} (hn : D.Nodup) (hs : ∀ x ∈ D, x ∈ l) (hl : l.length ≤ D.length) : ∀ x ∈ l, x ∈ D := fun x hx => by
  by_cases h : x ∈ D
  · exact h
  · have h2 := nodup_sub_len (D := x :: D) (l := l) (List.nodup_cons.mpr ⟨h, hn⟩) fun y hy => by
      rcases List.mem_cons.mp hy with rfl | hy
      · exact hx
      · exact hs y hy
    simp only [List.length_cons] at h2
    omega
theorem DI.len (d : DI L n one M D R fd) : D.length ≤ fd.length := by
  have := nodup_sub_len d.dnd d.sub
  unfold keys at this
  rw [List.length_map] at this
  exact this
theorem DI.small (d : DI L n one M D R fd) : fd.length ≤ n := by
  have := nodup_sub_len (l := List.range n) d.nd fun x hx => List.mem_range.mpr (d.lt x hx)
  unfold keys at this
  rw [List.length_map, List.length_range] at this
  exact this
theorem DI.done (d : DI L n one M D (fun x y => x ∈ D ∧ y < n) fd) (h : ¬ D.length < fd.length) : Gr L n one M fd :=
  ⟨D, d, nodup_full d.dnd d.sub (by unfold keys; rw [List.length_map]; omega)⟩
end
/-! ### what it tells -/
section
variable {L : Nat → Nat → Int} {n one : Nat} {M : Int} {fd : Fd}
/-- the strength of chains from a to b is s -/
def IsStr (L : Nat → Nat → Int) (n a b : Nat) (s : Int) : Prop := 0 ≤ s ∧ ∀ t, 0 < t → (t ≤ s ↔ Rch L n t a b)
theorem IsStr.uniq {a b : Nat} {s s' : Int} (h : IsStr L n a b s) (h' : IsStr L n a b s') : s = s' := by
  have h1 := h.1
  have h2 := h'.1
  by_cases c : s < s'
  · have := (h.2 s' (by omega)).mpr ((h'.2 s' (by omega)).mp (Int.le_refl _))
    omega
  · by_cases c2 : s' < s
    · have := (h'.2 s (by omega)).mpr ((h.2 s (by omega)).mp (Int.le_refl _))
      omega
    · omega
/-- by the order in which the names were done -/
theorem DI.ind {D : List Nat} {R : Nat → Nat → Prop} (d : DI L n one M D R fd) (P : Nat → Prop) (h1 : P one)
    (hs : ∀ x y p q s, x ≠ one → lookD fd x = some (p, some y) → lookD fd y = some (q, s) → p = min q (L y x) → 0 < p → y ∈ D → P y → P x) : ∀ x ∈ D, P x := by
  have key : ∀ (k : Nat) (pre post : List Nat) (x : Nat), pre.length = k → D = pre ++ x :: post → P x := by
    intro k
    induction k using Nat.strongRecOn with
    | ind k ih =>
      intro pre post x hk hD
      by_cases hx : x = one
      · rw [hx]; exact h1
      · obtain ⟨⟨p, r⟩, e⟩ := look_mem.mp (d.sub x (by rw [hD]; simp))
        obtain ⟨y, q, s, rfl, e2, hy, hp, h0, hpre⟩ := d.prev x p r e hx
        have hyp := hpre pre post hD
        obtain ⟨a, b, hab⟩ := List.append_of_mem hyp
        refine hs x y p q s hx e e2 hp h0 hy (ih a.length ?_ a (b ++ x :: post) y rfl ?_)
        · rw [← hk, hab, List.length_append, List.length_cons]; omega
        · rw [hD, hab]; simp
  intro x hx
  obtain ⟨a, b, hab⟩ := List.append_of_mem hx
  exact key a.length a b x rfl hab
theorem Gr.below (g : Gr L n one M fd) (hM : ∀ j, j < n → L one j < M) {x : Nat} {p : Int} {r : Option Nat} (hx : x ≠ one) (e : lookD fd x = some (p, r)) : p < M := by
  obtain ⟨D, d, hD⟩ := g.ex
  have key := d.ind (fun x => ∀ p r, x ≠ one → lookD fd x = some (p, r) → p < M) (fun p r z => absurd rfl z) fun x y p q s hx e e2 hp h0 hy ih p' r' _ e' => by
    rw [e] at e'
    cases e'
    by_cases hyo : y = one
    · subst hyo
      have hxn := d.lt x (look_mem.mpr ⟨_, e⟩)
      have := hM x hxn
      omega
    · have := ih q s hyo e2
      omega
  exact key x (hD x (look_mem.mpr ⟨_, e⟩)) p r hx e
theorem Gr.sound (g : Gr L n one M fd) {x : Nat} {p t : Int} {r : Option Nat} (hx : x ≠ one) (e : lookD fd x = some (p, r)) (h0 : 0 < t) (ht : t ≤ p) : Rch L n t one x := by
  obtain ⟨D, d, hD⟩ := g.ex
  have key := d.ind (fun x => ∀ p r, x ≠ one → lookD fd x = some (p, r) → t ≤ p → Rch L n t one x) (fun p r z => absurd rfl z) fun x y p q s hx e e2 hp h0 hy ih p' r' _ e' hle => by
    rw [e] at e'
    cases e'
    have hxn := d.lt x (look_mem.mpr ⟨_, e⟩)
    by_cases hyo : y = one
    · subst hyo
      exact .step .refl hxn (by omega)
    · exact .step (ih q s hyo e2 (by omega)) hxn (by omega)
  exact key x (hD x (look_mem.mpr ⟨_, e⟩)) p r hx e ht
theorem Gr.whole (g : Gr L n one M fd) (hM : ∀ j, j < n → L one j < M) {x : Nat} {t : Int} (h0 : 0 < t) (h : Rch L n t one x) : x = one ∨ ∃ p r, lookD fd x = some (p, r) ∧ t ≤ p := by
  obtain ⟨D, d, hD⟩ := g.ex
  induction h with
  | refl => exact .inl rfl
  | @step b c hb hc hl ih =>
    by_cases hco : c = one
    · exact .inl hco
    · have hbp : ∃ p r, lookD fd b = some (p, r) ∧ t ≤ min p (L b c) := by
        rcases ih with rfl | ⟨p, r, e, hp⟩
        · have := hM c hc
          exact ⟨M, none, d.st, by omega⟩
        · exact ⟨p, r, e, by omega⟩
      obtain ⟨p, r, e, hp⟩ := hbp
      obtain ⟨q, s, e2, hq⟩ := (d.rel b c ⟨hD b (look_mem.mpr ⟨_, e⟩), hc⟩).2 p r e (by omega)
      exact .inr ⟨q, s, e2, by omega⟩
theorem Gr.isStr (g : Gr L n one M fd) (hM : ∀ j, j < n → L one j < M) {x : Nat} (hx : x ≠ one) : IsStr L n one x (str fd x) := by
  have pos : ∀ p r, lookD fd x = some (p, r) → 0 < p := fun p r e => by
    obtain ⟨D, d, hD⟩ := g.ex
    obtain ⟨_, _, _, _, _, _, _, h0, _⟩ := d.prev x p r e hx
    exact h0
  unfold str
  cases e : lookD fd x with
  | none =>
    refine ⟨Int.le_refl _, fun t ht => ⟨fun z => ?_, fun z => ?_⟩⟩
    · simp at z; omega
    · rcases g.whole hM ht z with z | ⟨p, r, z, _⟩
      · exact absurd z hx
      · rw [e] at z; cases z
  | some z =>
    obtain ⟨p, r⟩ := z
    have := pos p r e
    refine ⟨by simp; omega, fun t ht => ⟨fun z => g.sound hx e ht (by simpa using z), fun z => ?_⟩⟩
    rcases g.whole hM ht z with z | ⟨p', r', z, k⟩
    · exact absurd z hx
    · rw [e] at z
      cases z
      simpa using k
end
end Wg
/-! More rules: a new dict, lists joined, max and min of a list, a for over enumerate(t), a while; a def whose code object's place is told. -/
namespace Wx
open PySem PySem.Spec PyProof.Rows L2 Wd Wt
/-- te evaluates to a new dict -/
def EX [Tbl] (te : TE) (σ : L2.St) (H : Hp) (fd : List (Nat × PyData)) : Prop := ∀ H1, Ex H H1 → ∀ Q : VK, (∀ p H2, Nw H1 p → Ex H1 H2 → DAt H2 p fd → Q (.ref p) H2) → te σ H1 Q
section
variable [Tbl] {K : PySem.W.Frag} {σ : L2.St} {H H' : Hp} {ta tb te tk tv : TE} {t : TT} {v : V} {d : PyData} {ds es : List PyData} {D : Ends} {tu tw tz : TS}
theorem el_cat (ha : EL ta σ H ds) (hb : EL tb σ H es) (hz : ds.length + es.length ≤ 100000) : EL (tOp rCat ta tb) σ H (ds ++ es) := fun H1 x Q q =>
  ha H1 x _ fun l H2 n1 x1 k1 => hb H2 (x.trans x1) _ fun b H3 n2 x2 k2 => by
    obtain ⟨xs, h1, r1⟩ := k1.ex x2
    obtain ⟨zs, h2, r2⟩ := k2
    refine ⟨l, b, xs, zs, rfl, rfl, h1, h2, sz_of (by rw [r1.len, r2.len]; exact hz), fun p hp => ?_⟩
    exact q p _ (fresh_back (x1.trans x2) (.of hp)) ((x1.trans x2).trans (Ex.new hp)) ⟨_, upd_same, (r1.append r2).up (Tx.new hp)⟩
theorem ed_max {ns : List Int} {m : Int} (h : EL ta σ H (ns.map PyData.int)) (hm : m ∈ ns) (hx : ∀ y ∈ ns, y ≤ m) : ED (tCB (rMax K) (tCons ta tNil)) σ H (.int m) :=
  ed_cbL h fun p H1 _ hp Q q => by
    obtain ⟨xs, ha, rs⟩ := hp
    rw [rs.intsE] at ha
    refine ⟨p, ns, rfl, SqL.of ha, List.length_pos_of_mem hm, fun m' h1 h2 => ?_⟩
    have e : m' = m := Int.le_antisymm (hx m' h1) (h2 m hm)
    rw [e]
    exact q _ H1 (Ex.refl H1) (.int m)
theorem ed_min {ns : List Int} {m : Int} (h : EL ta σ H (ns.map PyData.int)) (hm : m ∈ ns) (hx : ∀ y ∈ ns, m ≤ y) : ED (tCB (rMin K) (tCons ta tNil)) σ H (.int m) :=
  ed_cbL h fun p H1 _ hp Q q => by
    obtain ⟨xs, ha, rs⟩ := hp
    rw [rs.intsE] at ha
    refine ⟨p, ns, rfl, SqL.of ha, List.length_pos_of_mem hm, fun m' h1 h2 => ?_⟩
    have e : m' = m := Int.le_antisymm (h2 m hm) (hx m' h1)
    rw [e]
    exact q _ H1 (Ex.refl H1) (.int m)
theorem ed_lenD {p : Addr} {fd : List (Nat × PyData)} (h : Ev ta σ H (.ref p)) (hp : DAt H p fd) : ED (tCB rLenD (tCons ta tNil)) σ H (.int (fd.length : Int)) :=
  ed_cbV h fun H1 x Q q => by
    obtain ⟨kvs, h1, h2⟩ := hp.ex x
    exact ⟨p, kvs, rfl, h1, q _ H1 (Ex.refl H1) (by rw [h2.len]; exact .int _)⟩
/-- {k: v} -/
theorem ex_disp {k : Nat} (hk : ED tk σ H (.int (k : Int))) (hv : ED tv σ H d) : EX (tDisp [(tk, tv)]) σ H [(k, d)] := fun H1 x Q q p hp => by
  have x1 : Ex H1 (upd H1 p (.dK [])) := Ex.new hp
  refine hk _ (x.trans x1) _ fun v1 H2 x2 r1 => hv H2 ((x.trans x1).trans x2) _ fun v2 H3 x3 r2 => ?_
  have x23 := x2.trans x3
  have h3 : H3 p = some (.dK []) := x23.at upd_same
  refine ⟨h3, [(.inl (k : Int), v2)], by rw [r1.intE]; rfl, by show 1 ≤ 15; decide, ?_⟩
  refine q p _ (.of hp) (Ex.mut (x1.trans x23) (.of hp) h3) ⟨_, upd_same, ?_⟩
  exact (KvR.cons r2 .nil).up (Tx.upd h3 True.intro)
theorem sx_asg {k : Nat} {fd : List (Nat × PyData)} (h : EX te σ H fd) (q : ∀ p H1, Nw H p → Ex H H1 → DAt H1 p fd → D.nx (σ.set k (some (.ref p))) H1) : tAsg te (gName k) D σ H := h H (Ex.refl H) _ q
theorem qx_asg {k : Nat} {fd : List (Nat × PyData)} (h : EX te σ H fd) (q : ∀ p H1, Nw H p → Ex H H1 → DAt H1 p fd → tz D (σ.set k (some (.ref p))) H1) : tSeq (tAsg te (gName k)) tz D σ H := h H (Ex.refl H) _ q
/-- while, by a word with a measure -/
theorem sd_while (Pv : Nat → L2.St → Hp → Prop) (h0 : ∃ m, Pv m σ H)
    (hs : ∀ m σ H, Pv m σ H → ∃ b, EvT t σ H b ∧ (b = true → ∀ G, Ex H G → tu { D with nx := fun σ' H' => ∃ m', m' < m ∧ Pv m' σ' H', ct := fun σ' H' => ∃ m', m' < m ∧ Pv m' σ' H', bk := D.nx } σ G) ∧ (b = false → ∀ G, Ex H G → D.nx σ G)) : tWhile t tu D σ H := by
  refine ⟨Pv, h0, fun m σ H p => ?_⟩
  obtain ⟨b, hb, h1, h2⟩ := hs m σ H p
  refine hb H (.refl H) _ fun G x => ?_
  cases b with
  | true => exact iteT ⟨fun σ' H' => ∃ m', m' < m ∧ Pv m' σ' H', fun _ _ z => z, h1 rfl G x⟩
  | false => exact iteF (h2 rfl G x)
theorem qd_while (Pv : Nat → L2.St → Hp → Prop) (h0 : ∃ m, Pv m σ H)
    (hs : ∀ m σ H, Pv m σ H → ∃ b, EvT t σ H b ∧ (b = true → ∀ G, Ex H G → tu { D with nx := fun σ' H' => ∃ m', m' < m ∧ Pv m' σ' H', ct := fun σ' H' => ∃ m', m' < m ∧ Pv m' σ' H', bk := tz D } σ G) ∧ (b = false → ∀ G, Ex H G → tz D σ G)) : tSeq (tWhile t tu) tz D σ H := sd_while (D := { D with nx := tz D }) Pv h0 hs
/-- for i, x in enumerate(t) -/
theorem sd_forE {α : Type} {l : List α} {enc : α → PyData} {tl : TE} {i j : Nat} (h : ED tl σ H (.tuple (l.map enc))) (Pv : Hp → Nat → L2.St → Hp → Prop) (h0 : ∀ H1, Ex H H1 → Pv H1 0 σ H1) (hT : ∀ H1 k σ' H', Pv H1 k σ' H' → Tx H1 H')
    (hs : ∀ H1 (k : Nat) x a σ' H' H2, Ex H H1 → l[k]? = some a → Ex H' H2 → Rp H2 x (enc a) → Pv H1 k σ' H' → tu { D with nx := Pv H1 (k + 1), ct := Pv H1 (k + 1), bk := D.nx } ((σ'.set i (some (.int (k : Int)))).set j (some x)) H2) (hd : ∀ H1 σ' H', Ex H H1 → Pv H1 l.length σ' H' → D.nx σ' H') :
    tFor (Wn.iEnumT K (tCons tl tNil)) (gTup K 2 (gCons (gName i) (gCons (gName j) gNil))) tu D σ H := h H (Ex.refl H) _ fun v H1 e r => by
  obtain ⟨a, xs, rfl, ha, rs⟩ := r.tupE
  have hl : xs.length = l.length := by rw [rs.len, List.length_map]
  refine ⟨a, xs, rfl, SqR ha, for_it walk_enumT (Pv H1) (h0 H1 e) (fun i σ' H' _ p => SqR (hT H1 i σ' H' p _ _ ha)) (fun k x σ' H' H2 hk p y => ?_) (fun σ' H' p => hd H1 σ' H' e (by rw [← hl]; exact p))⟩
  obtain ⟨T, y1, y2, rfl, hT', rfl, e1, e2⟩ := y
  obtain rfl : V.int (k : Nat) = y1 := Option.some.inj e1
  obtain ⟨d, hd, rd⟩ := rs.getV e2
  rw [List.getElem?_map] at hd
  cases hc : l[k]? with
  | none => rw [hc] at hd; cases hd
  | some b =>
    rw [hc] at hd
    obtain rfl : enc b = d := Option.some.inj hd
    have xn : Ex H' (upd H' T (.tup [.int (k : Nat), y2])) := Ex.new hT'
    refine ⟨T, [.int (k : Nat), y2], rfl, SqR (.inl upd_same), rfl, .int (k : Nat), [y2], rfl, y2, [], rfl, rfl, ?_⟩
    exact hs H1 k y2 b σ' H' _ e hc xn ((rd.up (hT H1 k σ' H' p)).ex xn) p
end
/-- a def whose code object stands at c -/
structure DefC (K : PySem.W.Frag) (mg : Str → Option Value) (x : Str) (st : Stmt) (ps : List Str) (c : Addr) : Prop where
  ex : ∃ (f : Addr) (oc : Value) (od : Option Addr) (kV doc pm : Value) (an : Option Addr) (ct : Value) (osl : Array (Option Value)), K.lookup f = some ⟨oc, od, .func (PySem.W.fnOf x x (defArgs st) (defBody st) (defScope st) .none kV doc pm an (.ref c) ct), osl⟩ ∧ PySem.W.codeIn K (.ref c) x = true ∧
    PySem.W.keepIn K (.ref f) = true ∧ mg x = some (.ref f) ∧ Binds K (PySem.W.fnOf x x (defArgs st) (defBody st) (defScope st) .none kV doc pm an (.ref c) ct) ps []
/-- the table of the lambdas of a def -/
structure LamOk [Tbl] (mg : Str → Option Value) (base : Heap) (q : Str) (c Pt : Addr) : Prop where
  tb : LamX.TabB base mg c Pt
  mem : (Pt, q) ∈ Tbl.T
  un : ∀ r ∈ Tbl.T, r.1 = Pt → r.2 = q
section
variable {P : Program} {w : World} {K : PySem.W.Frag} {mg : Str → Option Value} {base : Heap}
theorem cal_okC {x : Str} {st : Stmt} {N ps : List Str} {k : Nat} {sp : Sp} {c : Addr} (F : DefC K mg x st ps c) (S : FnScope N ps (defScope st)) (len : ∀ vs H Q E, sp vs H Q E → vs.length = ps.length)
    (hbody : ∀ (f : Addr) (A : Around) (outer : List Env) (s : Shared) (H : Hp) (vs : List V) (Q : VK) (E : XK), Room k (A.deeper (envOfC x (defScope st) s.heap.objs.size f (.ref c))) → sp vs H Q E →
      ∃ t, PSs (cxOf CX0 P w K mg base N x (defScope st) f (.ref c) A outer s H E).nox (defBody st) t ∧ t { nx := fun _ H' => Q .non H', rt := Q } (start N vs) H) : C8.Cal P w K mg base (k + 1) x sp [] := by
  obtain ⟨f, oc, od, kV, doc, pm, an, ct, osl, lk, hcd, kp, hm, b⟩ := F.ex
  exact ⟨f, _, ps, [], fn_of lk hcd S len fun A outer s H vs Q E hr hsp => let ⟨t, h, q⟩ := hbody f A outer s H vs Q E hr hsp; ⟨t, h.nox, q⟩, hm, kp, b, .nil⟩
theorem defC_mk {h : Heap} {x : Str} {st : Stmt} {ps : List Str} {f c : Addr} {oc : Value} {od an : Option Addr} {osl : Array (Option Value)} {kV doc pm ct : Value} (X : K.In h) (G : h.Ns mainGlobals mg)
    (a : PySem.W.nsIn K mainGlobals x = some (some (.ref f))) (l : K.lookup f = some ⟨oc, od, .func (PySem.W.fnOf x x (defArgs st) (defBody st) (defScope st) .none kV doc pm an (.ref c) ct), osl⟩) (hc : PySem.W.codeIn K (.ref c) x = true) (k : PySem.W.keepIn K (.ref f) = true)
    (b : ∀ (kV doc pm : Value) (an : Option Addr) (cdv ct : Value) (us : List Value), us.length = ps.length → bindArgs (PySem.W.fnOf x x (defArgs st) (defBody st) (defScope st) .none kV doc pm an cdv ct) ⟨us, []⟩ = pure (ps.zip us)) : DefC K mg x st ps c :=
  ⟨f, oc, od, kV, doc, pm, an, ct, osl, l, hc, k, PySem.W.mg_of X G a, (fun_mk l hc k).binds b⟩
end
/-! ### the strongest chains: promises -/
open Wm Wg
def dLs (n : Nat) (L : Nat → Nat → Int) : PyData := .tuple ((List.range n).map fun i => .tuple ((List.range n).map fun j => .int (L i j)))
def dOpt : Option Nat → PyData
  | none => .none
  | some y => .int (y : Int)
def enc (a : Int × Option Nat) : PyData := .tuple [.int a.1, dOpt a.2]
def dFd (fd : Fd) : List (Nat × PyData) := fd.map fun e => (e.1, enc e.2)
theorem dFd_look (fd : Fd) (k : Nat) : lookD (dFd fd) k = (lookD fd k).map enc := look_gmap enc fd k
theorem dFd_put (fd : Fd) (k : Nat) (a : Int × Option Nat) : putD (dFd fd) k (enc a) = dFd (putD fd k a) := (put_map enc fd k a).symm
theorem dFd_keys (fd : Fd) : (dFd fd).map Prod.fst = keys fd := by
  unfold dFd keys
  rw [List.map_map]
  rfl
theorem dFd_len (fd : Fd) : (dFd fd).length = fd.length := by unfold dFd; rw [List.length_map]
def spGrown [Tbl] : Sp := fun vs H Q _ => ∃ (n : Nat) (L : Nat → Nat → Int) (one : Nat), RpA H vs [dLs n L, .int (one : Int)] ∧ one < n ∧ n ≤ 20 ∧ LamX.Tabs Tbl.T H ∧
  ∀ p H' fd M, Nw H p → Ex H H' → DAt H' p (dFd fd) → Gr L n one M fd → (∀ j, j < n → L one j < M) → 0 < M → Q (.ref p) H'
theorem DI.rmono {L : Nat → Nat → Int} {n one : Nat} {M : Int} {D : List Nat} {R R' : Nat → Nat → Prop} {fd : Fd} (d : DI L n one M D R fd) (h : ∀ x y, R' x y → R x y) : DI L n one M D R' fd :=
  ⟨d.nd, d.lt, d.st, d.sub, d.dnd, d.one0, d.one1, d.prev, d.big, fun x y r => d.rel x y (h x y r)⟩
theorem str_of {fd : Fd} {x : Nat} {p : Int} {r : Option Nat} (h : lookD fd x = some (p, r)) : Wg.str fd x = p := by
  unfold Wg.str
  rw [h]
  rfl
section
variable [Tbl] {K : PySem.W.Frag} {σ : L2.St} {H : Hp} {ty : TE} {p : Addr} {fd : Fd} {i k : Nat}
theorem ed_fget {a : Int × Option Nat} (hs : σ[i]? = some (some (.ref p))) (hp : DAt H p (dFd fd)) (hk : ED ty σ H (.int (k : Int))) (hv : lookD fd k = some a) : ED (tDGet (tVar i) ty) σ H (enc a) := ed_dget hs hp hk (by rw [dFd_look, hv]; rfl)
/-- d[x][0] -/
theorem ed_fget0 {q : Int} {r : Option Nat} (hs : σ[i]? = some (some (.ref p))) (hp : DAt H p (dFd fd)) (hk : ED ty σ H (.int (k : Int))) (hv : lookD fd k = some (q, r)) : ED (tOp (rIxT K) (tDGet (tVar i) ty) (tC (.int 0))) σ H (.int q) :=
  ed_ix (k := 0) (ds := [.int q, dOpt r]) (ed_fget hs hp hk hv) ed_int rfl
theorem et_fin (hs : σ[i]? = some (some (.ref p))) (hp : DAt H p (dFd fd)) (hk : ED ty σ H (.int (k : Int))) : EvT (tB (tDIn ty (tVar i))) σ H (lookD fd k).isSome := by
  have h := et_din hs hp hk
  rw [dFd_look, Option.isSome_map] at h
  exact h
theorem et_fnotin (hs : σ[i]? = some (some (.ref p))) (hp : DAt H p (dFd fd)) (hk : ED ty σ H (.int (k : Int))) : EvT (tB (tDNotIn ty (tVar i))) σ H (!(lookD fd k).isSome) := by
  have h := et_dnotin hs hp hk
  rw [dFd_look, Option.isSome_map] at h
  exact h
end
theorem pick_ex {L : Nat → Nat → Int} {n one : Nat} {M : Int} {D : List Nat} {R : Nat → Nat → Prop} {fd : Fd} (d : DI L n one M D R fd) (h : D.length < fd.length) : ∃ x ∈ keys fd, x ∉ D := by
  refine Classical.byContradiction fun z => ?_
  have h2 := nodup_sub_len d.nd fun x hx => Classical.byContradiction fun y => z ⟨x, hx, y⟩
  unfold keys at h2
  rw [List.length_map] at h2
  omega
theorem left_mem {D ks : List Nat} {x : Nat} : x ∈ ks.filter (fun x : Nat => !decide ((x : Int) ∈ D.map fun y : Nat => (y : Int))) ↔ x ∈ ks ∧ x ∉ D := by
  rw [List.mem_filter]
  refine and_congr_right fun _ => ?_
  rw [Bool.not_eq_true', decide_eq_false_iff_not]
  refine not_congr ⟨fun h => ?_, fun h => List.mem_map.mpr ⟨x, h, rfl⟩⟩
  obtain ⟨y, hy, e⟩ := List.mem_map.mp h
  have : y = x := by omega
  exact this ▸ hy
theorem dmax (l : List Int) : ∃ m : Int, m ∈ (0 :: l) ∧ ∀ y ∈ (0 :: l), y ≤ m := by
  induction l with
  | nil => exact ⟨0, by simp, by simp⟩
  | cons a l ih =>
    obtain ⟨m, h1, h2⟩ := ih
    by_cases c : a ≤ m
    · refine ⟨m, ?_, fun y hy => ?_⟩
      · rcases List.mem_cons.mp h1 with h | h
        · rw [h]; simp
        · simp [h]
      · rcases List.mem_cons.mp hy with h | h
        · rw [h]; exact h2 0 (by simp)
        · rcases List.mem_cons.mp h with h | h
          · rw [h]; exact c
          · exact h2 y (by simp [h])
    · refine ⟨a, by simp, fun y hy => ?_⟩
      rcases List.mem_cons.mp hy with h | h
      · have := h2 0 (by simp); omega
      · rcases List.mem_cons.mp h with h | h
        · omega
        · have := h2 y (by simp [h]); omega
end Wx
/-! Strengths by hand; lists of lists; the strength as a number; promises that ask for the tables. -/
namespace Wg
section
variable {L : Nat → Nat → Int} {n : Nat} {t : Int} {a b c : Nat}
theorem Rch.lt (h : Rch L n t a b) (ha : a < n) : b < n := by
  cases h with
  | refl => exact ha
  | step _ h _ => exact h
theorem Rch.trans (h : Rch L n t a b) (k : Rch L n t b c) : Rch L n t a c := by
  induction k with
  | refl => exact h
  | step _ h1 h2 ih => exact .step ih h1 h2
theorem Rch.one (h : b < n) (k : t ≤ L a b) : Rch L n t a b := .step .refl h k
theorem Rch.mono {s : Int} (h : Rch L n t a b) (k : s ≤ t) : Rch L n s a b := by
  induction h with
  | refl => exact .refl
  | step _ h1 h2 ih => exact .step ih h1 (by omega)
/-- by its first step -/
theorem Rch.head (h : Rch L n t b c) (hb : b < n) (k : t ≤ L a b) : Rch L n t a c := (Rch.one hb k).trans h
def fw (F : Nat → Nat → Int) (k i j : Nat) : Int := max (F i j) (min (F i k) (F k j))
def fwN (F : Nat → Nat → Int) : Nat → Nat → Nat → Int
  | 0 => F
  | k + 1 => fw (fwN F k) k
def fw0 (L : Nat → Nat → Int) (i j : Nat) : Int := max 0 (L i j)
theorem fwN_le (F : Nat → Nat → Int) (i j : Nat) : ∀ k, F i j ≤ fwN F k i j
  | 0 => Int.le_refl _
  | k + 1 => by
    have := fwN_le F i j k
    show F i j ≤ max (fwN F k i j) _
    omega
theorem fwN_close (F : Nat → Nat → Int) : ∀ k m i j, m < k → min (fwN F k i m) (fwN F k m j) ≤ fwN F k i j
  | 0, m, _, _, h => absurd h (Nat.not_lt_zero _)
  | k + 1, m, i, j, h => by
    show min (fw (fwN F k) k i m) (fw (fwN F k) k m j) ≤ fw (fwN F k) k i j
    unfold fw
    by_cases e : m = k
    · subst e; omega
    · have h1 := fwN_close F k m i j (by omega)
      have h2 := fwN_close F k m k j (by omega)
      have h3 := fwN_close F k m i k (by omega)
      omega
theorem fwN_sound {k : Nat} (hk : k ≤ n) (h0 : 0 < t) : ∀ i j, i < n → j < n → t ≤ fwN (fw0 L) k i j → Rch L n t i j := by
  induction k with
  | zero =>
    intro i j hi hj h
    have h : t ≤ max 0 (L i j) := h
    exact Rch.one hj (by omega)
  | succ k ih =>
    intro i j hi hj h
    have h : t ≤ max (fwN (fw0 L) k i j) (min (fwN (fw0 L) k i k) (fwN (fw0 L) k k j)) := h
    by_cases c : t ≤ fwN (fw0 L) k i j
    · exact ih (by omega) i j hi hj c
    · exact (ih (by omega) i k hi (by omega) (by omega)).trans (ih (by omega) k j (by omega) hj (by omega))
theorem fwN_whole (h0 : 0 < t) (h : Rch L n t a b) (ha : a < n) : a = b ∨ t ≤ fwN (fw0 L) n a b := by
  induction h with
  | refl => exact .inl rfl
  | @step b c hb hc hl ih =>
    have e1 := fwN_le (fw0 L) b c n
    have e2 : fw0 L b c = max 0 (L b c) := rfl
    rcases ih with rfl | ih
    · exact .inr (by omega)
    · have := fwN_close (fw0 L) n b a c (hb.lt ha)
      exact .inr (by omega)
theorem fwN_str (ha : a < n) (hb : b < n) (h : a ≠ b) : IsStr L n a b (fwN (fw0 L) n a b) := by
  refine ⟨?_, fun t h0 => ⟨fun z => fwN_sound (Nat.le_refl n) h0 a b ha hb z, fun z => (fwN_whole h0 z ha).resolve_left h⟩⟩
  have e1 := fwN_le (fw0 L) a b n
  have e2 : fw0 L a b = max 0 (L a b) := rfl
  omega
/-- the strength, by hand -/
def sOf (L : Nat → Nat → Int) (n a b : Nat) : Int := fwN (fw0 L) n a b
theorem sOf_is (ha : a < n) (hb : b < n) (h : a ≠ b) : IsStr L n a b (sOf L n a b) := fwN_str ha hb h
theorem sOf_eq {s : Int} (ha : a < n) (hb : b < n) (h : a ≠ b) (k : IsStr L n a b s) : s = sOf L n a b := k.uniq (sOf_is ha hb h)
theorem fw_col (F : Nat → Nat → Int) (k i : Nat) : fw F k i k = F i k := by unfold fw; omega
theorem fw_row (F : Nat → Nat → Int) (k j : Nat) : fw F k k j = F k j := by unfold fw; omega
end
/-- what stands there within a turn -/
def fwAt (F : Nat → Nat → Int) (k a b i j : Nat) : Int := if i < a ∨ (i = a ∧ j < b) then fw F k i j else F i j
theorem fwAt_start (F : Nat → Nat → Int) (k i j : Nat) : F i j = fwAt F k 0 0 i j := by
  unfold fwAt
  rw [if_neg (by omega)]
theorem fwAt_next (F : Nat → Nat → Int) (k a n i j : Nat) (h : j < n) : fwAt F k a n i j = fwAt F k (a + 1) 0 i j := by
  unfold fwAt
  by_cases c : i < a ∨ (i = a ∧ j < n)
  · rw [if_pos c, if_pos (by omega)]
  · rw [if_neg c, if_neg (by omega)]
theorem fwAt_end (F : Nat → Nat → Int) (k n i j : Nat) (h : i < n) : fwAt F k n 0 i j = fw F k i j := by
  unfold fwAt
  rw [if_pos (.inl h)]
theorem fwAt_here (F : Nat → Nat → Int) (k a b : Nat) : fwAt F k a b a b = F a b := by
  unfold fwAt
  rw [if_neg (by omega)]
theorem fwAt_col (F : Nat → Nat → Int) (k a b i : Nat) : fwAt F k a b i k = F i k := by
  unfold fwAt
  rw [fw_col]
  split <;> rfl
theorem fwAt_row (F : Nat → Nat → Int) (k a b j : Nat) : fwAt F k a b k j = F k j := by
  unfold fwAt
  rw [fw_row]
  split <;> rfl
theorem fwAt_step (F : Nat → Nat → Int) (k a b i j : Nat) : (if i = a ∧ j = b then max (fwAt F k a b a b) (min (fwAt F k a b a k) (fwAt F k a b k b)) else fwAt F k a b i j) = fwAt F k a (b + 1) i j := by
  by_cases c : i = a ∧ j = b
  · obtain ⟨rfl, rfl⟩ := c
    rw [if_pos ⟨rfl, rfl⟩, fwAt_here, fwAt_col, fwAt_row]
    unfold fwAt
    rw [if_pos (by omega)]
    rfl
  · rw [if_neg c]
    unfold fwAt
    by_cases c2 : i < a ∨ (i = a ∧ j < b)
    · rw [if_pos c2, if_pos (by omega)]
    · rw [if_neg c2, if_neg (by omega)]
/-- all pairs of unlike names -/
def pairsN (n : Nat) : List (Nat × Nat) := (List.range n).flatMap fun i : Nat => ((List.range n).filter fun j : Nat => !decide ((j : Int) = (i : Int))).map fun j => (i, j)
theorem mem_pairs {n : Nat} {p : Nat × Nat} : p ∈ pairsN n ↔ p.1 < n ∧ p.2 < n ∧ p.1 ≠ p.2 := by
  unfold pairsN
  rw [List.mem_flatMap]
  constructor
  · rintro ⟨i, hi, h⟩
    obtain ⟨j, hj, rfl⟩ := List.mem_map.mp h
    rw [List.mem_filter] at hj
    have h1 := List.mem_range.mp hi
    have h2 := List.mem_range.mp hj.1
    refine ⟨h1, h2, fun z => ?_⟩
    have h3 := hj.2
    simp at z
    subst z
    simp at h3
  · intro ⟨h1, h2, h3⟩
    refine ⟨p.1, List.mem_range.mpr h1, List.mem_map.mpr ⟨p.2, List.mem_filter.mpr ⟨List.mem_range.mpr h2, ?_⟩, rfl⟩⟩
    have : ¬ (p.2 : Int) = (p.1 : Int) := by omega
    simp [this]
end Wg

namespace Wy
open PySem PySem.Spec PyProof.Rows L2 Wd Wt Wx Wm Wg
/-- a list of m lists of n whole numbers, all new to H0 -/
def MAt (H0 H : Hp) (p : Addr) (m n : Nat) (M : Nat → Nat → Int) : Prop := ∃ ps : List Addr, H p = some (.lst (ps.map V.ref)) ∧ ps.length = m ∧ ps.Nodup ∧ p ∉ ps ∧ (∀ q ∈ ps, Nw H0 q) ∧ ∀ i q, ps[i]? = some q → H q = some (.lst ((List.range n).map fun j => V.int (M i j)))
section
variable [Tbl] {K : PySem.W.Frag} {σ : L2.St} {H H' H0 : Hp} {ta tb te tl ti tj tv td ty : TE} {t : TT} {v : V} {d : PyData} {ds es : List PyData} {D : Ends} {tu tw tz : TS} {p : Addr} {m n : Nat} {M : Nat → Nat → Int}
theorem MAt.ex (h : MAt H0 H p m n M) (e : Ex H H') : MAt H0 H' p m n M := by
  obtain ⟨ps, h1, h2, h3, h4, h5, h6⟩ := h
  exact ⟨ps, e.at h1, h2, h3, h4, h5, fun i q hq => e.at (h6 i q hq)⟩
theorem MAt.nil (h : LAt H p []) : MAt H0 H p 0 n M := by
  obtain ⟨vs, h1, h2⟩ := h
  rw [h2.nilE] at h1
  exact ⟨[], h1, rfl, List.nodup_nil, by simp, by simp, fun i q hq => by simp at hq⟩
theorem MAt.congr {M' : Nat → Nat → Int} (h : MAt H0 H p m n M) (e : ∀ i j, i < m → j < n → M i j = M' i j) : MAt H0 H p m n M' := by
  obtain ⟨ps, h1, h2, h3, h4, h5, h6⟩ := h
  refine ⟨ps, h1, h2, h3, h4, h5, fun i q hq => (h6 i q hq).trans (congrArg (fun l => some (HO.lst l)) (List.map_congr_left fun j hj => ?_))⟩
  have := (List.getElem?_eq_some_iff.mp hq).1
  rw [e i j (by omega) (List.mem_range.mp hj)]
/-- m[i][j] -/
theorem ed_mget {x i j : Nat} (hs : σ[x]? = some (some (.ref p))) (hp : MAt H0 H p m n M) (hi : ED ti σ H (.int (i : Int))) (hj : ED tj σ H (.int (j : Int))) (him : i < m) (hjn : j < n) : ED (tOp (rIxL K) (tOp (rIxL K) (tVar x) ti) tj) σ H (.int (M i j)) := fun H1 x1 Q q =>
  ⟨_, hs, hi H1 x1 _ fun v H2 x2 r => by
    obtain ⟨ps, h1, h2, h3, h4, h5, h6⟩ := hp.ex (x1.trans x2)
    have hq : ps[i]? = some ps[i] := List.getElem?_eq_getElem (by omega)
    refine ⟨p, _, (i : Int), .ref ps[i], rfl, r.intE, SqL.of h1, atI_nat (by rw [List.getElem?_map, hq]; rfl), ?_⟩
    refine hj H2 (x1.trans x2) _ fun w H3 x3 s => ?_
    exact ⟨ps[i], _, (j : Int), .int (M i j), rfl, s.intE, SqL.of (x3.at (h6 i _ hq)), atI_nat (by simp [hjn]), q _ H3 (x2.trans x3) (.int _)⟩⟩
/-- M with v at i, j -/
def put2 (M : Nat → Nat → Int) (i j : Nat) (v : Int) : Nat → Nat → Int := fun a b => if a = i ∧ b = j then v else M a b
theorem row_set {j : Nat} {v : Int} {f : Nat → Int} (h : j < n) : ((List.range n).map fun j => V.int (f j)).set j (.int v) = (List.range n).map fun b => V.int (if b = j then v else f b) := by
  refine List.ext_getElem? fun k => ?_
  rw [List.getElem?_set]
  by_cases e : j = k
  · subst e; simp [h]
  · by_cases hk : k < n
    · simp [e, hk, Ne.symm e]
    · simp [e, hk]
/-- m[i][j] = v -/
theorem sd_mset {x i j : Nat} {z : Int} (e0 : Ex H0 H) (hs : σ[x]? = some (some (.ref p))) (hp : MAt H0 H p m n M) (hv : ED tv σ H (.int z)) (hi : ∀ H1, Ex H H1 → ED ti σ H1 (.int (i : Int))) (hj : ∀ H1, Ex H H1 → ED tj σ H1 (.int (j : Int))) (him : i < m) (hjn : j < n)
    (k : ∀ H2, Ex H0 H2 → MAt H0 H2 p m n (put2 M i j z) → Tx H H2 → D.nx σ H2) : tAsg tv (gSub (tOp (rIxL K) (tVar x) ti) tj rSetL) D σ H := hv H (.refl H) _ fun v H1 x1 r => ⟨_, hs, hi H1 x1 H1 (.refl _) _ fun v2 H2 x2 r2 => by
  obtain ⟨ps, h1, h2, h3, h4, h5, h6⟩ := hp.ex (x1.trans x2)
  have hq : ps[i]? = some ps[i] := List.getElem?_eq_getElem (by omega)
  refine ⟨p, _, (i : Int), .ref ps[i], rfl, r2.intE, SqL.of h1, atI_nat (by rw [List.getElem?_map, hq]; rfl), ?_⟩
  refine hj H2 (x1.trans x2) H2 (.refl _) _ fun w H3 x3 s => ?_
  have h6' : ∀ a q, ps[a]? = some q → H3 q = some (.lst ((List.range n).map fun j => V.int (M a j))) := fun a q hq => x3.at (h6 a q hq)
  have hro := h6' i _ hq
  refine ⟨ps[i], _, (j : Int), j, rfl, s.intE, hro, ?_, ?_⟩
  · have : ((List.range n).map fun j => V.int (M i j)).length = n := by simp
    rw [this]
    unfold ixN
    rw [if_pos (by omega), if_pos (by omega)]
    simp
  · rw [r.intE, row_set hjn]
    have x13 := (x1.trans x2).trans x3
    have np : p ≠ ps[i] := fun z => h4 (z ▸ List.getElem_mem _)
    refine k _ (Ex.mut (e0.trans x13) (h5 _ (List.getElem_mem _)) hro) ⟨ps, by rw [upd_ne np]; exact x3.at h1, h2, h3, h4, h5, fun a q ha => ?_⟩ ((Tx.of x13).trans (Tx.upd hro True.intro))
    by_cases ea : a = i
    · subst ea
      rw [hq] at ha
      cases ha
      rw [upd_same]
      refine congrArg (fun l => some (HO.lst l)) (List.map_congr_left fun b _ => ?_)
      unfold put2
      by_cases eb : b = j
      · simp [eb]
      · simp [eb]
    · have nq : q ≠ ps[i] := fun z => by
        have e1 := List.getElem?_eq_some_iff.mp ha
        obtain ⟨l1, e1⟩ := e1
        rw [← e1] at z
        exact ea ((List.getElem_inj h3).mp z)
      rw [upd_ne nq, h6' a q ha]
      refine congrArg (fun l => some (HO.lst l)) (List.map_congr_left fun b _ => ?_)
      unfold put2
      simp [ea]⟩
/-- m.append([..]) -/
theorem sd_mapp {x : Nat} (e0 : Ex H0 H) (h0 : Nw H0 p) (hs : σ[x]? = some (some (.ref p))) (hp : MAt H0 H p m n M) (h : EL te σ H ((List.range n).map fun j => PyData.int (M m j))) (hz : m < 100000) (hn : 0 < n)
    (k : ∀ H2, Ex H0 H2 → MAt H0 H2 p (m + 1) n M → Tx H H2 → D.nx σ H2) : tDrop (tBM K "list" rAppend (tVar x) (tCons te tNil)) D σ H := ⟨_, hs, by
  obtain ⟨ps, h1, h2, h3, h4, h5, h6⟩ := hp
  refine ⟨.inl ⟨rfl, _, SqL.of h1⟩, h H (.refl H) _ fun q H2 nq x2 hL => ⟨p, _, .ref q, rfl, rfl, x2.at h1, sz_lt (by rw [List.length_map, h2]; exact hz), ?_⟩⟩
  obtain ⟨vs, hq, rs⟩ := hL
  have ev : vs = (List.range n).map fun j => V.int (M m j) := by
    have e1 : ((List.range n).map fun j => PyData.int (M m j)) = ((List.range n).map fun j => M m j).map PyData.int := by rw [List.map_map]; rfl
    rw [e1] at rs
    rw [rs.intsE, List.map_map]
    rfl
  rw [ev] at hq
  have nqp : q ≠ p := fun z => by
    have := x2.at h1
    rw [← z, hq] at this
    have e := HO.lst.inj (Option.some.inj this)
    cases n with
    | zero => omega
    | succ n =>
      cases ps with
      | nil => simp [List.range_succ_eq_map] at e
      | cons a ps => simp [List.range_succ_eq_map] at e
  have nps : q ∉ ps := fun z => by
    obtain ⟨i, hi, e⟩ := List.getElem_of_mem z
    have := h6 i q (by rw [List.getElem?_eq_getElem hi, e])
    exact nq _ this True.intro
  refine k _ (Ex.mut (e0.trans x2) h0 (x2.at h1)) ⟨ps ++ [q], by rw [upd_same, List.map_append]; rfl, by simp [h2], ?_, ?_, ?_, fun i r hr => ?_⟩ ((Tx.of x2).trans (Tx.upd (x2.at h1) True.intro))
  · rw [List.nodup_append]
    exact ⟨h3, by simp, fun a ha b hb => by rw [List.mem_singleton.mp hb]; exact fun z => nps (z ▸ ha)⟩
  · intro z
    rcases List.mem_append.mp z with z | z
    · exact h4 z
    · exact nqp (List.mem_singleton.mp z).symm
  · intro r hr
    rcases List.mem_append.mp hr with z | z
    · exact h5 r z
    · rw [List.mem_singleton.mp z]
      exact e0.back nq
  · rw [List.getElem?_append] at hr
    split at hr
    · rename_i hlt
      have hrp : r ≠ p := fun z => h4 (z ▸ List.mem_of_getElem? hr)
      rw [upd_ne hrp]
      exact x2.at (h6 i r hr)
    · rename_i hge
      have hi : i = ps.length := by
        have := (List.getElem?_eq_some_iff.mp hr).1
        simp at this
        omega
      subst hi
      simp at hr
      subst hr
      rw [upd_ne nqp, h2]
      exact hq⟩
/-- l.extend(a new list) -/
theorem sd_ext (e0 : Ex H0 H) (h0 : Nw H0 p) (hp : LAt H p ds) (ha : Ev ta σ H (.ref p)) (h : EL te σ H es) (hz : ds.length + es.length ≤ 100000)
    (k : ∀ H2, Ex H0 H2 → LAt H2 p (ds ++ es) → Tx H H2 → But p H H2 → D.nx σ H2) : tDrop (tBM K "list" rExtend ta (tCons te tNil)) D σ H := ha H (.refl H) _ fun H1 e1 => by
  obtain ⟨vs, h1, r1⟩ := hp
  refine ⟨.inl ⟨rfl, vs, SqL.of (e1.at h1)⟩, h H1 e1 _ fun b H2 nb e2 hb => ?_⟩
  obtain ⟨ws, h2, r2⟩ := hb
  have e12 := e1.trans e2
  refine ⟨p, b, vs, ws, rfl, rfl, e12.at h1, h2, sz_of (by rw [r1.len, r2.len]; exact hz), ?_⟩
  have t : Tx H2 (upd H2 p (.lst (vs ++ ws))) := Tx.upd (e12.at h1) True.intro
  refine k _ (Ex.mut (e0.trans e12) h0 (e12.at h1)) ⟨_, upd_same, ((r1.ex e12).append r2).up t⟩ ((Tx.of e12).trans t) fun a o n q m => ?_
  rw [upd_ne n]
  exact e12.at q m
/-- for x in a new list of data -/
theorem sd_forL {α : Type} {l : List α} {enc : α → PyData} {tl : TE} {g : TG} (h : EL tl σ H (l.map enc)) (Pv : Hp → Nat → L2.St → Hp → Prop) (h0 : ∀ H1, Ex H H1 → Pv H1 0 σ H1) (hT : ∀ H1 k σ' H', Pv H1 k σ' H' → Ex H1 H')
    (hs : ∀ H1 (k : Nat) x a σ' H', Ex H H1 → l[k]? = some a → Rp H' x (enc a) → Pv H1 k σ' H' → g x σ' H' fun σ2 H2 => tu { D with nx := Pv H1 (k + 1), ct := Pv H1 (k + 1), bk := D.nx } σ2 H2) (hd : ∀ H1 σ' H', Ex H H1 → Pv H1 l.length σ' H' → D.nx σ' H') :
    tFor (iList K tl) g tu D σ H := h H (Ex.refl H) _ fun p H1 _ e hL => by
  obtain ⟨xs, ha, rs⟩ := hL
  have hl : xs.length = l.length := by rw [rs.len, List.length_map]
  refine ⟨p, rfl, ⟨xs, SqL.of ha⟩, for_list (K := K) (a := p) (xs := xs) (Pv H1) (h0 H1 e) (fun i σ' H' _ z => SqL.of ((hT H1 i σ' H' z).at ha)) (fun k x σ' H' hk z => ?_) (fun σ' H' z => hd H1 σ' H' e (by rw [← hl]; exact z))⟩
  obtain ⟨d, hd, rd⟩ := rs.getV hk
  rw [List.getElem?_map] at hd
  cases hc : l[k]? with
  | none => rw [hc] at hd; cases hd
  | some b =>
    rw [hc] at hd
    obtain rfl : enc b = d := Option.some.inj hd
    exact hs H1 k x b σ' H' e hc (rd.ex (hT H1 k σ' H' z)) z
theorem qd_forL {α : Type} {l : List α} {enc : α → PyData} {tl : TE} {g : TG} (h : EL tl σ H (l.map enc)) (Pv : Hp → Nat → L2.St → Hp → Prop) (h0 : ∀ H1, Ex H H1 → Pv H1 0 σ H1) (hT : ∀ H1 k σ' H', Pv H1 k σ' H' → Ex H1 H')
    (hs : ∀ H1 (k : Nat) x a σ' H', Ex H H1 → l[k]? = some a → Rp H' x (enc a) → Pv H1 k σ' H' → g x σ' H' fun σ2 H2 => tu { D with nx := Pv H1 (k + 1), ct := Pv H1 (k + 1), bk := tz D } σ2 H2) (hd : ∀ H1 σ' H', Ex H H1 → Pv H1 l.length σ' H' → tz D σ' H') :
    tSeq (tFor (iList K tl) g tu) tz D σ H := sd_forL (D := { D with nx := tz D }) h Pv h0 hT hs hd
/-- not of a new list -/
theorem ed_notL (h : EL te σ H ds) : ED (tNotT K te) σ H (.bool (ds.isEmpty)) := fun H1 x Q q => h H1 x _ fun p H2 _ x2 hL => by
  obtain ⟨vs, h1, r1⟩ := hL
  refine ⟨!vs.isEmpty, .inl ⟨vs, SqL.of h1, rfl⟩, ?_⟩
  have e : vs.isEmpty = ds.isEmpty := by
    have := r1.len
    cases vs <;> cases ds <;> simp_all
  rw [e, Bool.not_not]
  exact q _ H2 x2 (.bl _)
/-! ### promises that ask for the tables -/
def SpRT (R : List PyData → PyData → Prop) : Sp := fun vs H Q _ => ∃ ds d, RpA H vs ds ∧ R ds d ∧ LamX.Tabs Tbl.T H ∧ ∀ v H', Ex H H' → Rp H' v d → Q v H'
theorem ed_callT {R : List PyData → PyData → Prop} {E : XK} {ta : TA} (tbs : LamX.Tabs Tbl.T H) (h : EA ta σ H ds) (hr : R ds d) : ED (tCall (SpRT R) [] E ta) σ H d := fun H1 x Q q =>
  h H1 x _ fun vs H2 x2 r => ⟨ds, d, by rw [List.append_nil]; exact r, hr, (x.trans x2).tabs tbs, fun v H3 x3 s => q v H3 (x2.trans x3) s⟩
theorem SpRT.len {R : List PyData → PyData → Prop} {vs : List V} {H : Hp} {Q : VK} {E : XK} {n : Nat} (h : SpRT R vs H Q E) (hn : ∀ ds d, R ds d → ds.length = n) : vs.length = n := by
  obtain ⟨ds, d, r, q, _⟩ := h
  rw [r.len]
  exact hn _ _ q
def SpPT (pre : List PyData → Prop) (post : List PyData → PyData → Prop) : Sp := fun vs H Q _ => ∃ ds, RpA H vs ds ∧ pre ds ∧ LamX.Tabs Tbl.T H ∧ ∀ v d H', Ex H H' → Rp H' v d → post ds d → Q v H'
theorem ep_callT {pre : List PyData → Prop} {post : List PyData → PyData → Prop} {E : XK} {ta : TA} (tbs : LamX.Tabs Tbl.T H) (h : EA ta σ H ds) (hr : pre ds) : EP (tCall (SpPT pre post) [] E ta) σ H (post ds) := fun H1 x Q q =>
  h H1 x _ fun vs H2 x2 r => ⟨ds, by rw [List.append_nil]; exact r, hr, (x.trans x2).tabs tbs, fun v d H3 x3 s p => q v d H3 (x2.trans x3) s p⟩
theorem SpPT.len {pre : List PyData → Prop} {post : List PyData → PyData → Prop} {vs : List V} {H : Hp} {Q : VK} {E : XK} {n : Nat} (h : SpPT pre post vs H Q E) (hn : ∀ ds, pre ds → ds.length = n) : vs.length = n := by
  obtain ⟨ds, r, q, _⟩ := h
  rw [r.len]
  exact hn _ q
/-- te evaluates to a new dict of the strongest chains -/
def EG (te : TE) (σ : L2.St) (H : Hp) (L : Nat → Nat → Int) (n one : Nat) : Prop := ∀ H1, Ex H H1 → ∀ Q : VK, (∀ p H2 fd M, Nw H1 p → Ex H1 H2 → DAt H2 p (dFd fd) → Gr L n one M fd → (∀ j, j < n → L one j < M) → 0 < M → Q (.ref p) H2) → te σ H1 Q
theorem eg_call {L : Nat → Nat → Int} {one : Nat} {E : XK} {ta : TA} (tbs : LamX.Tabs Tbl.T H) (h : EA ta σ H [dLs n L, .int (one : Int)]) (h1 : one < n) (hn : n ≤ 20) : EG (tCall spGrown [] E ta) σ H L n one := fun H1 x Q q =>
  h H1 x _ fun vs H2 x2 r => ⟨n, L, one, by rw [List.append_nil]; exact r, h1, hn, (x.trans x2).tabs tbs, fun p H3 fd M hp x3 a b c d => q p H3 fd M (fresh_back x2 hp) (x2.trans x3) a b c d⟩
/-- d.get(x, (0, None))[0] -/
theorem get0_core {p : Addr} {fd : Fd} {x : Nat} {H1 : Hp} (hD : DAt H1 p (dFd fd)) (hk : ED ty σ H1 (.int (x : Int))) {Q : VK} (q : ∀ H2, Ex H1 H2 → Q (.int (Wg.str fd x)) H2) :
    (∃ a, V.ref p = .ref a ∧ IsD H1 a ∧ ty σ H1 fun y H2 => tTup (tCons (tC (.int 0)) (tCons (tC .non) tNil)) σ H2 fun z H3 => ∃ o, DGet H3 a y o ∧ (tC (.int 0) σ H3 fun w H4 => rIxT K (o.getD z) w H4 Q)) := by
  obtain ⟨kvs, h1, h2⟩ := hD
  refine ⟨p, rfl, .inl ⟨kvs, .inl h1⟩, hk H1 (.refl _) _ fun y H2 x2 r => ?_⟩
  refine ed_tup (ds := [.int 0, .none]) (ea_cons ed_int (ea_cons ed_non ea_nil)) (by show 2 ≤ 100000; decide) H2 (.refl _) _ fun z H3 x3 rz => ?_
  have x23 := x2.trans x3
  refine ⟨_, .inl ⟨kvs, .inl (x : Int), .inl (x23.at h1), r.intE, rfl⟩, ?_⟩
  have h3 := h2.up (.of x23)
  cases e : lookD fd x with
  | none =>
    rw [h3.none (by rw [dFd_look, e]; rfl)]
    obtain ⟨a, xs, rfl, ha, rs⟩ := rz.tupE
    obtain ⟨y1, y2, rfl, r1, r2⟩ := rs.e2
    refine ⟨a, [y1, y2], 0, y1, rfl, rfl, SqR ha, rfl, ?_⟩
    rw [r1.intE]
    have e2 : Wg.str fd x = 0 := by unfold Wg.str; rw [e]; rfl
    rw [← e2]
    exact q H3 x23
  | some a =>
    obtain ⟨p0, r0⟩ := a
    obtain ⟨v, h4, h5⟩ := h3.some (d := enc (p0, r0)) (by rw [dFd_look, e]; rfl)
    rw [h4]
    obtain ⟨a, xs, hv, ha, rs⟩ := Rp.tupE (ds := [.int p0, dOpt r0]) h5
    subst hv
    obtain ⟨y1, y2, rfl, r1, r2⟩ := rs.e2
    refine ⟨a, [y1, y2], 0, y1, rfl, rfl, SqR ha, rfl, ?_⟩
    rw [r1.intE, ← str_of e]
    exact q H3 x23
theorem ed_get0 {fd : Fd} {i x : Nat} (hs : σ[i]? = some (some (.ref p))) (hp : DAt H p (dFd fd)) (hk : ED ty σ H (.int (x : Int))) : ED (tOp (rIxT K) (tDGet2 (tVar i) ty (tTup (tCons (tC (.int 0)) (tCons (tC .non) tNil)))) (tC (.int 0))) σ H (.int (Wg.str fd x)) := fun H1 x1 Q q =>
  ⟨_, hs, get0_core (hp.ex x1) (hk.mono x1) fun H2 x2 => q _ H2 x2 (.int _)⟩
theorem ed_gget0 {L : Nat → Nat → Int} {one x : Nat} (hg : EG td σ H L n one) (hk : ED ty σ H (.int (x : Int))) (h1 : one < n) (hx : x < n) (hne : one ≠ x) : ED (tOp (rIxT K) (tDGet2 td ty (tTup (tCons (tC (.int 0)) (tCons (tC .non) tNil)))) (tC (.int 0))) σ H (.int (sOf L n one x)) := fun H1 x1 Q q =>
  hg H1 x1 _ fun p H2 fd M _ x2 hD g hM _ => get0_core hD (hk.mono (x1.trans x2)) fun H3 x3 => by
    have e := sOf_eq h1 hx hne (g.isStr hM (Ne.symm hne))
    rw [e]
    exact q _ H3 (x2.trans x3) (.int _)
end
def R_strength (ds : List PyData) (d : PyData) : Prop := ∃ (n : Nat) (bs : List (List Int)) (i j : Nat), ds = [dBox n bs, .int (i : Int), .int (j : Int)] ∧ Wf n bs ∧ i < n ∧ j < n ∧ i ≠ j ∧ d = .int (sOf (Wm.lead bs) n i j)
def dPair (p : Nat × Nat) : PyData := .tuple [.int (p.1 : Int), .int (p.2 : Int)]
def R_pairs (ds : List PyData) (es : List PyData) : Prop := ∃ (n : Nat) (bs : List (List Int)), ds = [dBox n bs] ∧ n ≤ 20 ∧ es = (pairsN n).map dPair
def spStrengths [Tbl] : Sp := fun vs H Q _ => ∃ (n : Nat) (bs : List (List Int)), RpA H vs [dBox n bs] ∧ Wf n bs ∧ 0 < n ∧ ∀ p H', Nw H p → Ex H H' → MAt H H' p n n (sOf (Wm.lead bs) n) → Q (.ref p) H'
theorem SpL.len [Tbl] {R : List PyData → List PyData → Prop} {vs : List V} {H : Hp} {Q : VK} {E : XK} {n : Nat} (h : SpL R vs H Q E) (hn : ∀ ds d, R ds d → ds.length = n) : vs.length = n := by
  obtain ⟨ds, d, r, q, _⟩ := h
  rw [r.len]
  exact hn _ _ q
end Wy
namespace Wy
open PySem PySem.Spec PyProof.Rows L2 Wd Wm
/-- the law's promise, the tables told -/
def spLawT [Tbl] (K : PySem.W.Frag) : Sp := fun vs H Q E => spLaw K vs H Q E ∧ LamX.Tabs Tbl.T H
end Wy
namespace Wy
open L2 Wd
theorem et_is [Tbl] {t : TT} {σ : L2.St} {H : Hp} {a b : Bool} (h : EvT t σ H a) (e : a = b) : EvT t σ H b := e ▸ h
theorem pairs_len {n : Nat} : (Wg.pairsN n).length ≤ n * n := by
  unfold Wg.pairsN
  have key : ∀ l : List Nat, (l.flatMap fun i : Nat => ((List.range n).filter fun j : Nat => !decide ((j : Int) = (i : Int))).map fun j => (i, j)).length ≤ l.length * n := fun l => by
    induction l with
    | nil => simp
    | cons a l ih =>
      rw [List.flatMap_cons, List.length_append, List.length_map, List.length_cons, Nat.add_mul, Nat.one_mul]
      have := List.length_filter_le (fun j : Nat => !decide ((j : Int) = (a : Int))) (List.range n)
      rw [List.length_range] at this
      omega
  have := key (List.range n)
  rw [List.length_range] at this
  exact this
end Wy
/-! Dicts with pairs as keys; sorted pairs; x in a tuple of data; who is above whom. -/
namespace Wg
def allP (n : Nat) : List (Nat × Nat) := (List.range n).flatMap fun a => (List.range n).map fun b => (a, b)
theorem mem_allP {n : Nat} {q : Nat × Nat} : q ∈ allP n ↔ q.1 < n ∧ q.2 < n := by
  unfold allP
  rw [List.mem_flatMap]
  constructor
  · rintro ⟨a, ha, h⟩
    obtain ⟨b, hb, rfl⟩ := List.mem_map.mp h
    exact ⟨List.mem_range.mp ha, List.mem_range.mp hb⟩
  · intro ⟨h1, h2⟩
    exact ⟨q.1, List.mem_range.mpr h1, List.mem_map.mpr ⟨q.2, List.mem_range.mpr h2, rfl⟩⟩
/-- the pairs so far, row by row -/
def rowsP (n m : Nat) : List (Nat × Nat) := (List.range m).flatMap fun a => (List.range n).map fun b => (a, b)
theorem rowsP_len (n : Nat) : ∀ m, (rowsP n m).length = m * n
  | 0 => by simp [rowsP]
  | m + 1 => by
    have ih := rowsP_len n m
    unfold rowsP at ih ⊢
    rw [List.range_succ, List.flatMap_append, List.length_append, ih]
    simp [Nat.add_mul]
theorem rowsP_succ (n m : Nat) : rowsP n (m + 1) = rowsP n m ++ (List.range n).map fun b => (m, b) := by
  unfold rowsP
  rw [List.range_succ, List.flatMap_append]
  simp
theorem mem_rowsP {n m : Nat} {q : Nat × Nat} : q ∈ rowsP n m ↔ q.1 < m ∧ q.2 < n := by
  unfold rowsP
  rw [List.mem_flatMap]
  constructor
  · rintro ⟨a, ha, h⟩
    obtain ⟨b, hb, rfl⟩ := List.mem_map.mp h
    exact ⟨List.mem_range.mp ha, List.mem_range.mp hb⟩
  · intro ⟨h1, h2⟩
    exact ⟨q.1, List.mem_range.mpr h1, List.mem_map.mpr ⟨q.2, List.mem_range.mpr h2, rfl⟩⟩
/-- by the first, then by the second -/
def ltPP (p q : Nat × Nat) : Prop := p.1 < q.1 ∨ (p.1 = q.1 ∧ p.2 < q.2)
theorem rowsP_sorted (n : Nat) : ∀ m, (rowsP n m).Pairwise ltPP
  | 0 => by simp [rowsP]
  | m + 1 => by
    rw [rowsP_succ, List.pairwise_append]
    refine ⟨rowsP_sorted n m, ?_, fun a ha b hb => ?_⟩
    · rw [List.pairwise_map]
      exact List.Pairwise.imp (fun h => .inr ⟨rfl, h⟩) List.pairwise_lt_range
    · obtain ⟨c, _, rfl⟩ := List.mem_map.mp hb
      exact .inl (mem_rowsP.mp ha).1
theorem pairs_all (n : Nat) : pairsN n = (allP n).filter fun q => !decide ((q.2 : Int) = (q.1 : Int)) := by
  unfold pairsN allP
  rw [List.filter_flatMap]
  refine congrArg (fun f => List.flatMap f (List.range n)) (funext fun a => ?_)
  rw [List.filter_map]
  rfl
theorem pairs_sorted (n : Nat) : (pairsN n).Pairwise ltPP := by
  rw [pairs_all]
  exact (rowsP_sorted n n).filter _
/-- who is above whom -/
def isAbv (L : Nat → Nat → Int) (n : Nat) (q : Nat × Nat) : Bool := decide (sOf L n q.2 q.1 < sOf L n q.1 q.2)
def abv (L : Nat → Nat → Int) (n : Nat) : List (Nat × Nat) := (pairsN n).filter (isAbv L n)
section
variable {L : Nat → Nat → Int} {n : Nat} {a b c : Nat}
theorem mem_abv {q : Nat × Nat} : q ∈ abv L n ↔ q.1 < n ∧ q.2 < n ∧ q.1 ≠ q.2 ∧ sOf L n q.2 q.1 < sOf L n q.1 q.2 := by
  unfold abv isAbv
  rw [List.mem_filter, mem_pairs, decide_eq_true_eq]
  constructor
  · rintro ⟨⟨h1, h2, h3⟩, h4⟩; exact ⟨h1, h2, h3, h4⟩
  · rintro ⟨h1, h2, h3, h4⟩; exact ⟨⟨h1, h2, h3⟩, h4⟩
theorem sOf_tri (ha : a < n) (hb : b < n) (hc : c < n) (h1 : a ≠ b) (h2 : b ≠ c) (h3 : a ≠ c) : min (sOf L n a b) (sOf L n b c) ≤ sOf L n a c := by
  have i1 := sOf_is (L := L) ha hb h1
  have i2 := sOf_is (L := L) hb hc h2
  have i3 := sOf_is (L := L) ha hc h3
  by_cases h : min (sOf L n a b) (sOf L n b c) ≤ 0
  · have := i3.1; omega
  · exact (i3.2 _ (by omega)).mpr (((i1.2 _ (by omega)).mp (by omega)).trans ((i2.2 _ (by omega)).mp (by omega)))
theorem abv_trans (h1 : (a, b) ∈ abv L n) (h2 : (b, c) ∈ abv L n) : (a, c) ∈ abv L n := by
  rw [mem_abv] at h1 h2 ⊢
  obtain ⟨ha, hb, n1, s1⟩ := h1
  obtain ⟨_, hc, n2, s2⟩ := h2
  have ha : a < n := ha
  have hb : b < n := hb
  have hc : c < n := hc
  have n1 : a ≠ b := n1
  have n2 : b ≠ c := n2
  have s1 : sOf L n b a < sOf L n a b := s1
  have s2 : sOf L n c b < sOf L n b c := s2
  by_cases e : a = c
  · subst e; omega
  · refine ⟨ha, hc, e, ?_⟩
    show sOf L n c a < sOf L n a c
    have t1 := sOf_tri (L := L) ha hb hc n1 n2 e
    have t2 := sOf_tri (L := L) hb hc ha n2 (Ne.symm e) (Ne.symm n1)
    have t3 := sOf_tri (L := L) hc ha hb (Ne.symm e) n1 (Ne.symm n2)
    omega
theorem abv_anti (h1 : (a, b) ∈ abv L n) (h2 : (b, a) ∈ abv L n) : False := by
  rw [mem_abv] at h1 h2
  have s1 : sOf L n b a < sOf L n a b := h1.2.2.2
  have s2 : sOf L n a b < sOf L n b a := h2.2.2.2
  omega
/-- none is above them -/
def fsts (L : Nat → Nat → Int) (n : Nat) : List Nat := (List.range n).filter fun k => !decide ((k : Int) ∈ ((abv L n).map Prod.snd).map fun x : Nat => (x : Int))
theorem mem_fsts {k : Nat} : k ∈ fsts L n ↔ k < n ∧ ∀ a, (a, k) ∉ abv L n := by
  unfold fsts
  rw [List.mem_filter, List.mem_range]
  refine and_congr_right fun _ => ?_
  rw [Bool.not_eq_true', decide_eq_false_iff_not]
  refine ⟨fun h a ha => h (List.mem_map.mpr ⟨k, List.mem_map.mpr ⟨_, ha, rfl⟩, rfl⟩), fun h z => ?_⟩
  obtain ⟨x, hx, e⟩ := List.mem_map.mp z
  obtain ⟨q, hq, rfl⟩ := List.mem_map.mp hx
  have : q.2 = k := by omega
  exact h q.1 (by rw [← this]; exact hq)
theorem fsts_ne (hn : 0 < n) : fsts L n ≠ [] := by
  intro z
  -- every name has one above it: walk up n + 1 times
  have step : ∀ k, k < n → ∃ a, (a, k) ∈ abv L n := fun k hk => Classical.byContradiction fun h => by
    have : k ∈ fsts L n := mem_fsts.mpr ⟨hk, fun a ha => h ⟨a, ha⟩⟩
    rw [z] at this
    cases this
  have key : ∀ m, ∃ (l : List Nat), l.length = m + 1 ∧ l.Nodup ∧ (∀ x ∈ l, x < n) ∧ ∃ h t, l = h :: t ∧ ∀ x ∈ t, (h, x) ∈ abv L n := by
    intro m
    induction m with
    | zero => exact ⟨[0], rfl, by simp, by simp; exact hn, 0, [], rfl, by simp⟩
    | succ m ih =>
      obtain ⟨l, h1, h2, h3, h, t, rfl, h4⟩ := ih
      obtain ⟨a, ha⟩ := step h (h3 h (by simp))
      have hall : ∀ x ∈ h :: t, (a, x) ∈ abv L n := fun x hx => by
        rcases List.mem_cons.mp hx with rfl | hx
        · exact ha
        · exact abv_trans ha (h4 x hx)
      refine ⟨a :: h :: t, by simp at h1 ⊢; omega, List.nodup_cons.mpr ⟨fun m => ?_, h2⟩, fun x hx => ?_, a, h :: t, rfl, hall⟩
      · exact (mem_abv.mp (hall a m)).2.2.1 rfl
      · rcases List.mem_cons.mp hx with rfl | hx
        · exact (mem_abv.mp ha).1
        · exact h3 x hx
  obtain ⟨l, h1, h2, h3, _⟩ := key n
  have := nodup_sub_len h2 fun x hx => List.mem_range.mpr (h3 x hx)
  rw [List.length_range] at this
  omega
end
end Wg

namespace Wz
open PySem PySem.Spec PyProof.Rows L2 Wd Wt Wx Wm Wg Wy
/-! ### x in a tuple of data -/
def rInT (K : PySem.W.Frag) : R2 := fun x y H Q => ∃ d ds, Dp K H x d ∧ Dp K H y (.tuple ds) ∧ SeqAt.shaped d = true ∧ SeqAt.shaped (.tuple ds) = true ∧ Q (.bl (ds.any fun z => PyData.eqv z d)) H
def rNotInT (K : PySem.W.Frag) : R2 := fun x y H Q => ∃ d ds, Dp K H x d ∧ Dp K H y (.tuple ds) ∧ SeqAt.shaped d = true ∧ SeqAt.shaped (.tuple ds) = true ∧ Q (.bl (!ds.any fun z => PyData.eqv z d)) H
theorem room65 {k : Nat} {A : Around} (r : Room k A) : A.units + 65 < cLine := by have := r.un; omega
theorem op_inT {X : Cx} {K : PySem.W.Frag} (hK : X.K = K) (hu : X.A.units + 65 < cLine) : OpR X (compareOp .In) (rInT K) := by
  subst hK
  intro pins s σ H x y v u Q I rx ry h
  obtain ⟨d, ds, hd, he, sd, se, q⟩ := h
  obtain ⟨as, r1⟩ := Dp.reads I d x v hd rx
  obtain ⟨bs, r2⟩ := Dp.reads I (.tuple ds) y u he ry
  exact SeqAt.in_tuple_reads r2 r1 (SeqAt.canLay_of_shaped se) (SeqAt.canLay_of_shaped sd) (room_in_shaped sd hu) ⟨.bl _, H, I, rfl, q⟩
theorem op_notInT {X : Cx} {K : PySem.W.Frag} (hK : X.K = K) (hu : X.A.units + 65 < cLine) : OpR X (compareOp .NotIn) (rNotInT K) := by
  subst hK
  intro pins s σ H x y v u Q I rx ry h
  obtain ⟨d, ds, hd, he, sd, se, q⟩ := h
  obtain ⟨as, r1⟩ := Dp.reads I d x v hd rx
  obtain ⟨bs, r2⟩ := Dp.reads I (.tuple ds) y u he ry
  exact SeqAt.notIn_tuple_reads r2 r1 (SeqAt.canLay_of_shaped se) (SeqAt.canLay_of_shaped sd) (room_in_shaped sd hu) ⟨.bl _, H, I, rfl, q⟩
section
variable [Tbl] {K : PySem.W.Frag} {σ : L2.St} {H H' H0 : Hp} {ta tb te tl ti tj tv td ty : TE} {t : TT} {v : V} {d : PyData} {ds es : List PyData} {D : Ends} {tu tw tz : TS} {p : Addr} {n : Nat}
theorem ed_inDT (ha : ED ta σ H d) (hb : ED tb σ H (.tuple ds)) (s1 : SeqAt.shaped d = true) (s2 : SeqAt.shaped (.tuple ds) = true) : ED (tOp (rInT K) ta tb) σ H (.bool (ds.any fun z => PyData.eqv z d)) := fun H1 x Q q =>
  ha H1 x _ fun v H2 x2 r => hb H2 (x.trans x2) _ fun w H3 x3 s => ⟨_, _, (r.ex x3).dp, s.dp, s1, s2, q _ H3 (x2.trans x3) (.bl _)⟩
theorem ed_ninDT (ha : ED ta σ H d) (hb : ED tb σ H (.tuple ds)) (s1 : SeqAt.shaped d = true) (s2 : SeqAt.shaped (.tuple ds) = true) : ED (tOp (rNotInT K) ta tb) σ H (.bool (!ds.any fun z => PyData.eqv z d)) := fun H1 x Q q =>
  ha H1 x _ fun v H2 x2 r => hb H2 (x.trans x2) _ fun w H3 x3 s => ⟨_, _, (r.ex x3).dp, s.dp, s1, s2, q _ H3 (x2.trans x3) (.bl _)⟩
/-! ### pairs as data -/
theorem dPair_sh (q : Nat × Nat) : Sh 1 (dPair q) := Sh.tup fun d hd => by
  simp only [List.mem_cons, List.not_mem_nil, or_false] at hd
  rcases hd with rfl | rfl <;> exact Sh.int 0 _
theorem dPair_eqv (a b : Nat × Nat) : PyData.eqv (dPair a) (dPair b) = decide (a = b) := by
  by_cases e : a = b
  · subst e
    rw [(dPair_sh a).refl]
    simp
  · rw [decide_eq_false e]
    unfold dPair
    have h : ¬ ((a.1 : Int) = (b.1 : Int) ∧ (a.2 : Int) = (b.2 : Int)) := fun z => e (Prod.ext (by omega) (by omega))
    simp [PyData.eqv, PyData.eqvAll]
    omega
theorem any_pair (l : List (Nat × Nat)) (q : Nat × Nat) : ((l.map dPair).any fun z => PyData.eqv z (dPair q)) = decide (q ∈ l) := by
  induction l with
  | nil => rfl
  | cons a l ih =>
    rw [List.map_cons, List.any_cons, ih, dPair_eqv]
    by_cases e : a = q
    · subst e; simp
    · have e' : ¬ q = a := fun z => e z.symm
      simp [e, e']
/-! ### sorted(pairs) -/
/-- the pair of ints that stands at t -/
def pairAt (H : Hp) (t : Addr) : Int × Int := match H t with
  | some (.tup [.int i, .int j]) => (i, j)
  | some (.frz _ (.tup [.int i, .int j])) => (i, j)
  | _ => (0, 0)
def kPair (H : Hp) : V → Int × Int
  | .ref t => pairAt H t
  | _ => (0, 0)
theorem pairAt_of {t : Addr} {i j : Int} (h : Rd H t (.tup [.int i, .int j])) : pairAt H t = (i, j) := by
  rcases h with h | ⟨o, h⟩ <;> simp only [pairAt, h]
/-- sorted(xs), xs a list of pairs of ints (k says which): a new list, sorted, equal ones in their order -/
def rSortedPR (K : PySem.W.Frag) : List V → Hp → VK → Prop := fun vs H Q => ∃ (a : Addr) (xs : List V) (k : V → Int × Int), vs = [V.ref a] ∧ SqL K H a xs ∧ (∀ x ∈ xs, ∃ t, x = V.ref t ∧ Rd H t (.tup [.int (k x).1, .int (k x).2])) ∧
  ∀ ys p, SrtO.Srtd (ltP k) ys → SrtO.Stb (ltP k) ys xs → H p = none → Q (.ref p) (upd H p (.lst ys))
theorem cr_sortedPR {X : Cx} : CallR X (.builtin "sorted") (rSortedPR X.K) := by
  intro pins s σ H vs us Q I r h
  obtain ⟨a, xs, k, rfl, hs, hx, q⟩ := h
  obtain ⟨its, rv, hl, hz⟩ := I.list hs
  obtain ⟨u, rfl, ru⟩ := vals1 r
  obtain rfl : u = Value.ref a := ru
  obtain ⟨e1, e2⟩ := refs_back rv fun x m => by
    obtain ⟨t, e, _⟩ := hx x m
    exact ⟨t, e⟩
  refine SrtO.sorted_pairsO (k := fun u => k (backV u)) hl.isList (by rw [← rv.length]; exact hz) (fun v hv => ?_) fun h' d out h1 h2 kp hd hn => ?_
  · obtain ⟨t, rfl⟩ := e2 v hv
    have hm : V.ref t ∈ xs := by rw [e1]; exact List.mem_map.mpr ⟨_, hv, rfl⟩
    obtain ⟨t', e, ht⟩ := hx _ hm
    cases e
    obtain ⟨its2, r2, ⟨o, ho, hc, n, hd⟩, _⟩ := I.tuple (show SqT X.K H t _ from .inl ht)
    obtain ⟨u1, u2, rfl, ri, rj⟩ := vals2 r2
    obtain ⟨t1, rfl⟩ := ri
    obtain ⟨t2, rfl⟩ := rj
    exact ⟨t, o, t1, t2, n, rfl, ho, hc, hd⟩
  · have h3 : ∀ u ∈ out, ∃ a, u = Value.ref a := fun u hu => e2 u (h2.perm.mem_iff.mp hu)
    obtain ⟨n, hn⟩ := hn
    have hb : SrtO.Stb (ltP k) (out.map backV) xs := by
      rw [e1]
      exact SrtO.Stb.map (ltP_swo k) backV h2
    refine ⟨.ref d, upd H d (.lst (out.map backV)), I.laid (t' := s.toks) kp hd ⟨?_, out, n, vals_back h3, hn⟩, rfl, q _ d (SrtO.srtd_map h1) hb (I.hok.fresh hd)⟩
    rw [hb.len]
    exact hz
theorem pair_of (v : V) (q : Nat × Nat) (rv : Rp H v (dPair q)) : kPair H v = ((q.1 : Int), (q.2 : Int)) ∧ ∃ t, v = V.ref t ∧ Rd H t (.tup [.int (q.1 : Int), .int (q.2 : Int)]) := by
  obtain ⟨t, xs, rfl, ht, rs⟩ := Rp.tupE (ds := [.int (q.1 : Int), .int (q.2 : Int)]) rv
  obtain ⟨y, z, rfl, r1, r2⟩ := rs.e2
  rw [r1.intE, r2.intE] at ht
  exact ⟨pairAt_of ht, t, rfl, ht⟩
theorem pairs_of : ∀ {xs : List V} {l : List (Nat × Nat)}, RpA H xs (l.map dPair) → xs.map (kPair H) = l.map (fun q => ((q.1 : Int), (q.2 : Int))) ∧ ∀ x ∈ xs, ∃ t, x = V.ref t ∧ Rd H t (.tup [.int (kPair H x).1, .int (kPair H x).2])
  | xs, [], r => by
    rw [r.nilE]
    exact ⟨rfl, fun x hx => nomatch hx⟩
  | xs, q :: l, r => by
    obtain ⟨v, ws, rfl, rv, rs⟩ := RpA.consE (d := dPair q) (ds := l.map dPair) r
    obtain ⟨i1, i2⟩ := pairs_of rs
    obtain ⟨k1, t, k2, k3⟩ := pair_of v q rv
    refine ⟨by rw [List.map_cons, List.map_cons, k1, i1], fun x hx => ?_⟩
    rcases List.mem_cons.mp hx with rfl | hx
    · refine ⟨t, k2, ?_⟩
      rw [k1]
      exact k3
    · exact i2 x hx
/-- back from the pairs to the data -/
theorem rp_pairs : ∀ {ys : List V} {l : List (Nat × Nat)}, (∀ x ∈ ys, ∃ t, x = V.ref t ∧ Rd H t (.tup [.int (kPair H x).1, .int (kPair H x).2])) → ys.map (kPair H) = l.map (fun q => ((q.1 : Int), (q.2 : Int))) → RpA H ys (l.map dPair)
  | [], [], _, _ => .nil
  | [], _ :: _, _, e => by simp at e
  | _ :: _, [], _, e => by simp at e
  | y :: ys, q :: l, h, e => by
    rw [List.map_cons, List.map_cons] at e
    obtain ⟨e1, e2⟩ := List.cons.inj e
    obtain ⟨t, rfl, ht⟩ := h y List.mem_cons_self
    rw [e1] at ht
    exact .cons (d := dPair q) (.tup ht (.cons (.int _) (.cons (.int _) .nil))) (rp_pairs (fun x hx => h x (List.mem_cons_of_mem _ hx)) e2)
theorem ltPP_lex {p q : Nat × Nat} (h : ltPP p q) : SrtO.lexB ((q.1 : Int), (q.2 : Int)) ((p.1 : Int), (p.2 : Int)) = false := by
  refine SrtO.lexB_no.mpr ?_
  unfold ltPP at h
  simp only
  omega
/-- sorted by the pairs: the one rising list of the same pairs -/
theorem sort_one {ys : List (Int × Int)} {l l' : List (Nat × Nat)} (h1 : ys.Pairwise fun p q => SrtO.lexB q p = false) (h2 : ys.Perm (l.map fun q => ((q.1 : Int), (q.2 : Int)))) (h3 : l'.Pairwise ltPP) (h4 : l'.Perm l) : ys = l'.map fun q => ((q.1 : Int), (q.2 : Int)) := by
  have key : ∀ {A B : List (Int × Int)}, A.Pairwise (fun p q => SrtO.lexB q p = false) → B.Pairwise (fun p q => SrtO.lexB q p = false) → A.Perm B → A = B := fun {A} => by
    induction A with
    | nil => intro B _ _ p; exact (List.Perm.eq_nil p.symm).symm
    | cons a A ih =>
      intro B hA hB p
      cases B with
      | nil => exact absurd p.length_eq (by simp)
      | cons b B =>
        obtain ⟨a1, a2⟩ := List.pairwise_cons.mp hA
        obtain ⟨b1, b2⟩ := List.pairwise_cons.mp hB
        have e : a = b := by
          rcases List.mem_cons.mp (p.mem_iff.mp (List.mem_cons_self (a := a) (l := A))) with e | h
          · exact e
          · rcases List.mem_cons.mp (p.mem_iff.mpr (List.mem_cons_self (a := b) (l := B))) with e | h'
            · exact e.symm
            · have c1 := SrtO.lexB_no.mp (b1 a h)
              have c2 := SrtO.lexB_no.mp (a1 b h')
              exact Prod.ext (by omega) (by omega)
        subst e
        rw [ih a2 b2 p.cons_inv]
  exact key h1 (List.pairwise_map.mpr (h3.imp fun h => ltPP_lex h)) (h2.trans (h4.symm.map _))
theorem sortedPK {X : Cx} (h : X.K = K) : CallR X (.builtin "sorted") (rSortedPR K) := by subst h; exact cr_sortedPR
theorem sortedIK {X : Cx} (h : X.K = K) : CallR X (.builtin "sorted") (rSortedI K) := by subst h; exact cr_sortedI
theorem sp_core {l l' : List (Nat × Nat)} {H1 : Hp} (hL : LAt H1 p (l.map dPair)) (hs : l'.Pairwise ltPP) (hp : l'.Perm l) {Q : VK} (q : ∀ p H2, Nw H1 p → Ex H1 H2 → LAt H2 p (l'.map dPair) → Q (.ref p) H2) : rSortedPR K [.ref p] H1 Q := by
  obtain ⟨xs, h1, rs⟩ := hL
  obtain ⟨s1, s2⟩ := pairs_of rs
  refine ⟨p, xs, kPair H1, rfl, SqL.of h1, s2, fun ys p' h3 h4 hp' => ?_⟩
  have e : ys.map (kPair H1) = l'.map fun q => ((q.1 : Int), (q.2 : Int)) := sort_one (List.pairwise_map.mpr h3) (by rw [← s1]; exact h4.perm.map _) hs hp
  have ry : RpA H1 ys (l'.map dPair) := rp_pairs (fun x hx => s2 x (h4.perm.mem_iff.mp hx)) e
  exact q p' _ (.of hp') (Ex.new hp') ⟨ys, upd_same, ry.up (Tx.new hp')⟩
theorem el_sortedN {l : List (Nat × Nat)} (h : EL te σ H (l.map dPair)) (hs : l.Pairwise ltPP) : EL (tCB (rSortedPR K) (tCons te tNil)) σ H (l.map dPair) :=
  el_cbL h fun p H1 _ hL Q q => sp_core hL hs (.refl _) q
theorem el_sortedL {l : List (Nat × Nat)} (h : Ev te σ H (.ref p)) (hL : LAt H p (l.map dPair)) (hs : l.Pairwise ltPP) : EL (tCB (rSortedPR K) (tCons te tNil)) σ H (l.map dPair) :=
  el_cbV h fun H1 x Q q => sp_core (hL.ex x) hs (.refl _) q
/-- .. of pairs in any order -/
theorem el_sortedNP {l l' : List (Nat × Nat)} (h : EL te σ H (l.map dPair)) (hs : l'.Pairwise ltPP) (hp : l'.Perm l) : EL (tCB (rSortedPR K) (tCons te tNil)) σ H (l'.map dPair) :=
  el_cbL h fun p H1 _ hL Q q => sp_core hL hs hp q
/-- te evaluates to a new pair -/
def E2 (te : TE) (σ : L2.St) (H : Hp) (q : Nat × Nat) : Prop := ∀ H1, Ex H H1 → ∀ Q : VK, (∀ b H2, Ex H1 H2 → H2 b = some (.tup [.int (q.1 : Int), .int (q.2 : Int)]) → Q (.ref b) H2) → te σ H1 Q
theorem e2_tup {a b : Nat} (h1 : ED ta σ H (.int (a : Int))) (h2 : ED tb σ H (.int (b : Int))) : E2 (tTup (tCons ta (tCons tb tNil))) σ H (a, b) := fun H1 x Q q =>
  h1 H1 x _ fun v H2 x2 r => h2 H2 (x.trans x2) _ fun w H3 x3 s => ⟨sz_of (by show 2 ≤ 100000; decide), fun p hp => q p _ ((x2.trans x3).trans (Ex.new hp)) (by rw [r.intE, s.intE]; exact upd_same)⟩
/-! ### a dict with pairs as keys -/
def kP (q : Nat × Nat) : List Key := [.inl (q.1 : Int), .inl (q.2 : Int)]
def kvP (S : Nat → Nat → Int) (q : Nat × Nat) : List Key × V := (kP q, .int (S q.1 q.2))
theorem kP_inj {q r : Nat × Nat} : kP q = kP r ↔ q = r := by
  unfold kP
  constructor
  · intro h
    injection h with h1 h2
    injection h2 with h2 _
    have h1 := Sum.inl.inj h1
    have h2 := Sum.inl.inj h2
    exact Prod.ext (by omega) (by omega)
  · intro h; rw [h]
def DPAt (H : Hp) (p : Addr) (l : List (Nat × Nat)) (S : Nat → Nat → Int) : Prop := H p = some (.dT (l.map (kvP S)))
def DPRd (H : Hp) (p : Addr) (l : List (Nat × Nat)) (S : Nat → Nat → Int) : Prop := Rd H p (.dT (l.map (kvP S)))
theorem DPAt.rd {l : List (Nat × Nat)} {S : Nat → Nat → Int} (h : DPAt H p l S) : DPRd H p l S := .inl h
theorem DPRd.ex {l : List (Nat × Nat)} {S : Nat → Nat → Int} (h : DPRd H p l S) (e : Ex H H') : DPRd H' p l S := e.rd h
theorem DPAt.ex {l : List (Nat × Nat)} {S : Nat → Nat → Int} (h : DPAt H p l S) (e : Ex H H') : DPAt H' p l S := e.at h
theorem valP {S : Nat → Nat → Int} {q : Nat × Nat} : ∀ {l : List (Nat × Nat)}, q ∈ l → valV (l.map (kvP S)) (kP q) = some (.int (S q.1 q.2))
  | a :: l, h => by
    unfold valV
    rw [List.map_cons, List.find?_cons]
    by_cases e : a = q
    · subst e
      simp [kvP]
    · have e1 : decide ((kvP S a).1 = kP q) = false := decide_eq_false fun z => e (kP_inj.mp z)
      rw [e1]
      exact valP (l := l) ((List.mem_cons.mp h).resolve_left (Ne.symm e))
theorem putP {S : Nat → Nat → Int} {q : Nat × Nat} {l : List (Nat × Nat)} (h : q ∉ l) : putK (l.map (kvP S)) (kP q) (.int (S q.1 q.2)) = (l ++ [q]).map (kvP S) := by
  unfold putK
  rw [if_neg, List.map_append]
  · rfl
  · intro z
    rw [List.any_map, List.any_eq_true] at z
    obtain ⟨a, ha, e⟩ := z
    have e := of_decide_eq_true e
    exact h (kP_inj.mp e ▸ ha)
/-- d[(a, b)] -/
theorem ed_dgetP {i : Nat} {l : List (Nat × Nat)} {S : Nat → Nat → Int} {q : Nat × Nat} (hs : σ[i]? = some (some (.ref p))) (hp : DPRd H p l S) (hk : E2 ty σ H q) (hq : q ∈ l) : ED (tDGet (tVar i) ty) σ H (.int (S q.1 q.2)) := fun H1 x Q k =>
  ⟨_, hs, hk H1 x _ fun b H2 x2 hb => by
    exact ⟨p, _, rfl, .inr ⟨_, kP q, b, hp.ex (x.trans x2), rfl, hb, (valP hq).symm⟩, k _ H2 x2 (.int _)⟩⟩
/-- d[(a, b)] = e, not there yet -/
theorem sd_dputP {i : Nat} {l : List (Nat × Nat)} {S : Nat → Nat → Int} {q : Nat × Nat} {z : Int} (e0 : Ex H0 H) (h0 : Nw H0 p) (hs : σ[i]? = some (some (.ref p))) (hp : DPAt H p l S) (hk : ∀ H1, Ex H H1 → E2 ty σ H1 q) (hv : ED tv σ H (.int z)) (hz : l.length < 100000) (hq : q ∉ l) (hS : z = S q.1 q.2)
    (k : ∀ H2, Ex H0 H2 → DPAt H2 p (l ++ [q]) S → Tx H H2 → But p H H2 → D.nx σ H2) : sDPut (tVar i) ty tv D σ H := hv H (.refl H) _ fun v H1 x1 r => ⟨_, hs, hk H1 x1 H1 (.refl _) _ fun b H2 x2 hb => by
  have x := x1.trans x2
  have hp2 := hp.ex x
  refine ⟨p, _, rfl, .inr ⟨_, kP q, b, hp2, rfl, hb, sz_lt (by rw [List.length_map]; exact hz), rfl⟩, ?_⟩
  rw [r.intE, hS, putP hq]
  have t : Tx H2 (upd H2 p (.dT ((l ++ [q]).map (kvP S)))) := Tx.upd hp2 True.intro
  refine k _ (Ex.mut (e0.trans x) h0 hp2) upd_same ((Tx.of x).trans t) fun a o n z m => ?_
  rw [upd_ne n]
  exact x.at z m⟩
theorem cwd_turn' {σ2 : L2.St} {Dl : Addr} {p : Bool} {y : PyData} {W' : Hp → Prop} (c : Cwd H Dl es H') (hz : es.length < 100000) (ht : EvT t σ2 H' p) (he : p = true → ED te σ2 H' y)
    (h1 : p = true → ∀ H2, Cwd H Dl (es ++ [y]) H2 → W' H2) (h0 : p = false → ∀ H2, Cwd H Dl es H2 → W' H2) :
    t σ2 H' fun b H3 => if b = true then te σ2 H3 fun y H4 => ∃ acc, H4 Dl = some (.lst acc) ∧ acc.length < sizeLine ∧ W' (upd H4 Dl (.lst (acc ++ [y]))) else W' H3 := by
  obtain ⟨p1, p2, p3⟩ := c
  refine ht H' (.refl _) _ fun H3 e3 => ?_
  cases hf : p with
  | true =>
    show te σ2 H3 fun y H4 => ∃ acc, H4 Dl = some (.lst acc) ∧ acc.length < sizeLine ∧ W' (upd H4 Dl (.lst (acc ++ [y])))
    refine he hf H3 e3 _ fun v H4 e4 r => ?_
    obtain ⟨acc, ha, ra⟩ := p3.ex (e3.trans e4)
    refine ⟨acc, ha, sz_lt (by rw [ra.len]; exact hz), h1 hf _ ⟨p1, Ex.mut ((p2.trans e3).trans e4) p1 ha, _, upd_same, (ra.append (.one r)).up (Tx.upd ha True.intro)⟩⟩
  | false =>
    show W' H3
    exact h0 hf H3 ⟨p1, p2.trans e3, p3.ex e3⟩
/-- [f for a, b in d if q] over the keys -/
theorem el_keysP {g : TG} {i : Nat} {vs : List Nat} {l : List (Nat × Nat)} {S : Nat → Nat → Int} (pr : Nat × Nat → Bool) (f : Nat × Nat → PyData) (hs : (σ : L2.St)[i]? = some (some (.ref p))) (hp : DPAt H p l S) (hz : l.length ≤ 40000)
    (hg : ∀ (q : Nat × Nat) (x : V) H1 H2, q ∈ l → Ex H H1 → But p H1 H2 → Tx H1 H2 → DPRd H2 p l S → Rp H2 x (dPair q) → ∃ σ2, wipe σ2 vs = wipe σ vs ∧ (∀ Q : L2.St → Hp → Prop, Q σ2 H2 → g x (wipe σ vs) H2 Q) ∧ EvT t σ2 H2 (pr q) ∧ (pr q = true → ED te σ2 H2 (f q))) :
    EL (tLockE (tLc (iKeys (tVar i)) g t te vs)) σ H ((l.filter pr).map f) := fun H1 x1 Q k => by
  have h1 : H1 p = some (.dT (l.map (kvP S))) := hp.ex x1
  refine ⟨p, _, h1, True.intro, fun od => ?_⟩
  have tl : Tx H1 (upd H1 p (.frz od (.dT (l.map (kvP S))))) := Tx.upd h1 True.intro
  have bl : But p H1 (upd H1 p (.frz od (.dT (l.map (kvP S))))) := fun a o n z _ => by rw [upd_ne n]; exact z
  have hfz : upd H1 p (.frz od (.dT (l.map (kvP S)))) p = some (.frz od (.dT (l.map (kvP S)))) := upd_same
  have htb : LamX.Tabs Tbl.T H1 → LamX.Tabs Tbl.T (upd H1 p (.frz od (.dT (l.map (kvP S))))) := fun t => tabs_upd t h1 True.intro
  generalize upd H1 p (.frz od (.dT (l.map (kvP S)))) = Hl at tl bl hfz htb
  refine ⟨_, hs, p, od, rfl, .inr ⟨_, hfz, fun Dl hD => ?_⟩⟩
  have hlen : (l.map (kvP S)).length = l.length := List.length_map _
  refine lc_it walk_keysT (fun m H' => Cwd Hl Dl (((l.take m).filter pr).map f) H') ⟨.of hD, Ex.new hD, [], upd_same, .nil⟩ (fun m H' _ c => c.2.1.at hfz) (fun m x G G' hm c y => ?_) (fun H' c => ?_)
  · obtain ⟨rfl, kk, v, qa, hkv, rfl, hqa⟩ := y
    rw [List.getElem?_map] at hkv
    cases hc : l[m]? with
    | none => rw [hc] at hkv; cases hkv
    | some b =>
      rw [hc] at hkv
      have e : kvP S b = (kk, v) := Option.some.inj hkv
      obtain rfl : kP b = kk := congrArg Prod.fst e
      have rx : Rp G' (.ref qa) (dPair b) := .tup (.inl hqa) (.cons (.int _) (.cons (.int _) .nil))
      have hfG : G' p = some (.frz od (.dT (l.map (kvP S)))) := c.2.1.at hfz
      obtain ⟨σ2, g1, g2, g3, g4⟩ := hg b (.ref qa) H1 G' (List.mem_of_getElem? hc) x1 (fun a o n z w => c.2.1.at (bl.at z n w) w) (tl.trans (Tx.of c.2.1)) (.inr ⟨od, hfG⟩) rx
      refine g2 _ ⟨g1, ?_⟩
      have hl : (((l.take m).filter pr).map f).length < 100000 := by
        have a1 := List.length_filter_le pr (l.take m)
        have a2 : (l.take m).length ≤ l.length := by rw [List.length_take]; omega
        rw [List.length_map]
        omega
      refine cwd_turn' (es := ((l.take m).filter pr).map f) (p := pr b) (y := f b) c hl g3 g4 (fun hp H2 c2 => ?_) (fun hp H2 c2 => ?_)
      · rw [filt_yes hc hp, List.map_append]
        exact c2
      · rw [filt_no hc hp]
        exact c2
  · have e : l.take (l.map (kvP S)).length = l := by rw [hlen]; exact List.take_length
    rw [e] at c
    obtain ⟨c1, c2, c3⟩ := c
    refine ⟨c2.at hfz, ?_⟩
    obtain ⟨vs', l1, l2⟩ := c3
    have npD : Dl ≠ p := ne_of l1 (c2.at hfz) fun z => by cases z
    have t2 : Tx H' (upd H' p (.dT (l.map (kvP S)))) := Tx.upd (c2.at hfz) True.intro
    refine k Dl (upd H' p (.dT (l.map (kvP S)))) (fun o z n => c1 o (bl.at z npD n) n) ⟨fun a o z n => ?_, fun tt => tabs_upd (c2.tabs (htb tt)) (c2.at hfz) True.intro⟩ ⟨vs', by rw [upd_ne npD]; exact l1, l2.up t2⟩
    by_cases ha : a = p
    · subst ha
      rw [h1] at z
      cases z
      exact upd_same
    · rw [upd_ne ha]
      exact c2.at (bl.at z ha n) n
end
/-! ### promises -/
def spStrs [Tbl] : Sp := fun vs H Q _ => ∃ (n : Nat) (bs : List (List Int)), RpA H vs [dBox n bs] ∧ Wf n bs ∧ LamX.Tabs Tbl.T H ∧
  ∀ p H' S, Nw H p → Ex H H' → DPAt H' p (allP n) S → (∀ a b, a < n → b < n → a ≠ b → S a b = sOf (Wm.lead bs) n a b) → Q (.ref p) H'
def R_above (ds : List PyData) (d : PyData) : Prop := ∃ (n : Nat) (bs : List (List Int)), ds = [dBox n bs] ∧ Wf n bs ∧ d = .tuple ((abv (Wm.lead bs) n).map dPair)
def dInts (l : List Nat) : PyData := .tuple (l.map fun k : Nat => .int (k : Int))
def R_firsts (ds : List PyData) (d : PyData) : Prop := ∃ (n : Nat) (bs : List (List Int)), ds = [dBox n bs] ∧ Wf n bs ∧ d = dInts (fsts (Wm.lead bs) n)
end Wz
namespace Wz
open PySem PySem.Spec PyProof.Rows L2 Wd Wt Wx Wm Wg Wy
section
variable [Tbl] {σ : L2.St} {H : Hp} {te : TE} {D : Ends} {tz : TS} {n : Nat} {bs : List (List Int)} {L : Nat → Nat → Int}
def ES (te : TE) (σ : L2.St) (H : Hp) (L : Nat → Nat → Int) (n : Nat) : Prop := ∀ H1, Ex H H1 → ∀ Q : VK, (∀ p H2 S, Nw H1 p → Ex H1 H2 → DPAt H2 p (allP n) S → (∀ a b, a < n → b < n → a ≠ b → S a b = sOf L n a b) → Q (.ref p) H2) → te σ H1 Q
theorem es_call {E : XK} {ta : TA} (tbs : LamX.Tabs Tbl.T H) (h : EA ta σ H [dBox n bs]) (wf : Wf n bs) : ES (tCall spStrs [] E ta) σ H (Wm.lead bs) n := fun H1 x Q q =>
  h H1 x _ fun vs H2 x2 r => ⟨n, bs, by rw [List.append_nil]; exact r, wf, (x.trans x2).tabs tbs, fun p H3 S hp x3 a b => q p H3 S (fresh_back x2 hp) (x2.trans x3) a b⟩
theorem qs_asg {k : Nat} (h : ES te σ H L n) (q : ∀ p H1 S, Nw H p → Ex H H1 → DPAt H1 p (allP n) S → (∀ a b, a < n → b < n → a ≠ b → S a b = sOf L n a b) → tz D (σ.set k (some (.ref p))) H1) : tSeq (tAsg te (gName k)) tz D σ H := h H (Ex.refl H) _ q
end
end Wz
/-! Boxes changed: slices and joins of tuples; a name raised does no harm. -/
namespace Wg
/-- a is better off -/
structure Up (L L' : Nat → Nat → Int) (n a : Nat) : Prop where
  out : ∀ j, j < n → L a j ≤ L' a j
  inn : ∀ i, i < n → L' i a ≤ L i a
  oth : ∀ i j, i < n → j < n → i ≠ a → j ≠ a → L' i j = L i j
section
variable {L L' L'' : Nat → Nat → Int} {n a x : Nat} {t : Int}
theorem Up.refl : Up L L n a := ⟨fun _ _ => Int.le_refl _, fun _ _ => Int.le_refl _, fun _ _ _ _ _ _ => rfl⟩
theorem Up.trans (h : Up L L' n a) (k : Up L' L'' n a) : Up L L'' n a :=
  ⟨fun j hj => Int.le_trans (h.out j hj) (k.out j hj), fun i hi => Int.le_trans (k.inn i hi) (h.inn i hi), fun i j hi hj h1 h2 => (k.oth i j hi hj h1 h2).trans (h.oth i j hi hj h1 h2)⟩
theorem Up.fwd (u : Up L L' n a) (h : Rch L n t a x) (ha : a < n) : Rch L' n t a x := by
  induction h with
  | refl => exact .refl
  | @step b c hb hc hl ih =>
    by_cases e : c = a
    · rw [e]; exact .refl
    · by_cases e2 : b = a
      · subst e2
        exact .one hc (Int.le_trans hl (u.out c hc))
      · exact .step ih hc (by rw [u.oth b c (hb.lt ha) hc e2 e]; exact hl)
theorem Up.bwd (u : Up L L' n a) (ha : a < n) (hx : x < n) {y : Nat} (h : Rch L' n t x y) : Rch L n t x y ∨ Rch L n t x a := by
  induction h with
  | refl => exact .inl .refl
  | @step b c hb hc hl ih =>
    rcases ih with ih | ih
    · by_cases e2 : b = a
      · exact .inr (e2 ▸ ih)
      · refine .inl (.step ih hc ?_)
        by_cases e : c = a
        · subst e
          exact Int.le_trans hl (u.inn b (hb.lt hx))
        · rw [← u.oth b c (hb.lt hx) hc e2 e]; exact hl
    · exact .inr ih
theorem Up.sOut (u : Up L L' n a) (ha : a < n) (hx : x < n) (h : a ≠ x) : sOf L n a x ≤ sOf L' n a x := by
  have i1 := sOf_is (L := L) ha hx h
  have i2 := sOf_is (L := L') ha hx h
  by_cases c : sOf L n a x ≤ 0
  · have := i2.1; omega
  · exact (i2.2 _ (by omega)).mpr (u.fwd ((i1.2 _ (by omega)).mp (Int.le_refl _)) ha)
theorem Up.sInn (u : Up L L' n a) (ha : a < n) (hx : x < n) (h : x ≠ a) : sOf L' n x a ≤ sOf L n x a := by
  have i1 := sOf_is (L := L) hx ha h
  have i2 := sOf_is (L := L') hx ha h
  by_cases c : sOf L' n x a ≤ 0
  · have := i1.1; omega
  · exact (i1.2 _ (by omega)).mpr ((u.bwd ha hx ((i2.2 _ (by omega)).mp (Int.le_refl _))).elim id id)
theorem Up.keep (u : Up L L' n a) (h : (a, x) ∈ abv L n) : (a, x) ∈ abv L' n := by
  rw [mem_abv] at h ⊢
  obtain ⟨h1, h2, h3, h4⟩ := h
  have h1 : a < n := h1
  have h2 : x < n := h2
  have h3 : a ≠ x := h3
  have h4 : sOf L n x a < sOf L n a x := h4
  refine ⟨h1, h2, h3, ?_⟩
  show sOf L' n x a < sOf L' n a x
  have := u.sOut h1 h2 h3
  have := u.sInn h1 h2 (Ne.symm h3)
  omega
theorem Up.back (u : Up L L' n a) (h : (x, a) ∈ abv L' n) : (x, a) ∈ abv L n := by
  rw [mem_abv] at h ⊢
  obtain ⟨h1, h2, h3, h4⟩ := h
  have h1 : x < n := h1
  have h2 : a < n := h2
  have h3 : x ≠ a := h3
  have h4 : sOf L' n a x < sOf L' n x a := h4
  refine ⟨h1, h2, h3, ?_⟩
  show sOf L n a x < sOf L n x a
  have := u.sOut h2 h1 (Ne.symm h3)
  have := u.sInn h2 h1 h3
  omega
theorem Up.fst (u : Up L L' n a) (h : a ∈ fsts L n) : a ∈ fsts L' n := by
  rw [mem_fsts] at h ⊢
  exact ⟨h.1, fun x hx => h.2 x (u.back hx)⟩
end
end Wg

namespace Wm
/-- a ballot with a name raised, a box with it -/
def rsB (b : List Int) (a : Nat) (by_ : Int) : List Int := b.set a (max 0 (b.getD a 0 - by_))
def rsd (bs : List (List Int)) (k a : Nat) (by_ : Int) : List (List Int) := bs.set k (rsB (bs.getD k []) a by_)
theorem rsB_len (b : List Int) (a : Nat) (y : Int) : (rsB b a y).length = b.length := by unfold rsB; rw [List.length_set]
theorem rsB_get {b : List Int} {a i : Nat} {y : Int} (ha : a < b.length) : (rsB b a y).getD i 0 = if i = a then max 0 (b.getD a 0 - y) else b.getD i 0 := by
  unfold rsB
  rw [List.getD_eq_getElem?_getD, List.getElem?_set]
  by_cases e : i = a
  · subst e
    simp [ha]
  · have e' : ¬ a = i := fun z => e z.symm
    simp [e, e', List.getD_eq_getElem?_getD]
theorem sgn_out {x x' y : Int} (h : x' ≤ x) : sgn x y ≤ sgn x' y := by
  unfold sgn
  simp only [decide_eq_true_eq]
  split <;> split <;> split <;> split <;> omega
theorem sgn_inn {x y y' : Int} (h : y' ≤ y) : sgn x y' ≤ sgn x y := by
  unfold sgn
  simp only [decide_eq_true_eq]
  split <;> split <;> split <;> split <;> omega
theorem sum_set {f : List Int → Int} {b' : List Int} : ∀ {bs : List (List Int)} {k : Nat}, k < bs.length → f (bs.getD k []) ≤ f b' → (bs.map f).sum ≤ ((bs.set k b').map f).sum
  | b :: bs, 0, _, h => by
    have h : f b ≤ f b' := h
    simp only [List.set_cons_zero, List.map_cons, List.sum_cons]
    omega
  | b :: bs, k + 1, hk, h => by
    have ih := sum_set (bs := bs) (k := k) (by simpa using hk) (by simpa using h)
    simp only [List.set_cons_succ, List.map_cons, List.sum_cons]
    omega
theorem sum_set' {f : List Int → Int} {b' : List Int} : ∀ {bs : List (List Int)} {k : Nat}, k < bs.length → f b' ≤ f (bs.getD k []) → ((bs.set k b').map f).sum ≤ (bs.map f).sum
  | b :: bs, 0, _, h => by
    have h : f b' ≤ f b := h
    simp only [List.set_cons_zero, List.map_cons, List.sum_cons]
    omega
  | b :: bs, k + 1, hk, h => by
    have ih := sum_set' (bs := bs) (k := k) (by simpa using hk) (by simpa using h)
    simp only [List.set_cons_succ, List.map_cons, List.sum_cons]
    omega
theorem rsd_up {bs : List (List Int)} {n k a : Nat} {y : Int} (hk : k < bs.length) (hb : (bs.getD k []).length = n) (hp : Pl (bs.getD k [])) (hy : 0 ≤ y) (ha : a < n) : Wg.Up (lead bs) (lead (rsd bs k a y)) n a := by
  have hal : a < (bs.getD k []).length := by omega
  have x0 : 0 ≤ (bs.getD k []).getD a 0 := by
    have := (hp _ (List.getElem_mem hal)).1
    rw [List.getD_eq_getElem?_getD, List.getElem?_eq_getElem hal]
    exact this
  refine ⟨fun j hj => ?_, fun i hi => ?_, fun i j hi hj h1 h2 => ?_⟩
  · by_cases e : j = a
    · subst e
      refine sum_set hk ?_
      unfold sgnAt sgn
      simp only [decide_eq_true_eq]
      split <;> split <;> omega
    · refine sum_set hk ?_
      unfold sgnAt
      rw [rsB_get hal, rsB_get hal, if_pos rfl, if_neg e]
      exact sgn_out (by omega)
  · by_cases e : i = a
    · subst e
      refine sum_set' hk ?_
      unfold sgnAt sgn
      simp only [decide_eq_true_eq]
      split <;> split <;> omega
    · refine sum_set' hk ?_
      unfold sgnAt
      rw [rsB_get hal, rsB_get hal, if_pos rfl, if_neg e]
      exact sgn_inn (by omega)
  · have e : sgnAt (rsB (bs.getD k []) a y) i j = sgnAt (bs.getD k []) i j := by
      unfold sgnAt
      rw [rsB_get hal, rsB_get hal, if_neg h1, if_neg h2]
    exact Int.le_antisymm (sum_set' hk (Int.le_of_eq e)) (sum_set hk (Int.le_of_eq e.symm))
theorem rsd_len (bs : List (List Int)) (k a : Nat) (y : Int) : (rsd bs k a y).length = bs.length := by unfold rsd; rw [List.length_set]
/-- what is true of each ballot -/
theorem rsd_mem {bs : List (List Int)} {k a : Nat} {y : Int} {b : List Int} (hk : k < bs.length) (h : b ∈ rsd bs k a y) : b ∈ bs ∨ b = rsB (bs.getD k []) a y := by
  unfold rsd at h
  rcases List.mem_or_eq_of_mem_set h with h | h
  · exact .inl h
  · exact .inr h
theorem getD_mem {bs : List (List Int)} {k : Nat} (hk : k < bs.length) : bs.getD k [] ∈ bs := by
  rw [List.getD_eq_getElem?_getD, List.getElem?_eq_getElem hk]
  exact List.getElem_mem hk
theorem rsB_pl {b : List Int} {a : Nat} {y : Int} (h : Pl b) (hy : 0 ≤ y) : Pl (rsB b a y) := fun x hx => by
  unfold rsB at hx
  rcases List.mem_or_eq_of_mem_set hx with hx | hx
  · exact h x hx
  · subst hx
    by_cases ha : a < b.length
    · have := h _ (List.getElem_mem ha)
      rw [List.getD_eq_getElem?_getD, List.getElem?_eq_getElem ha]
      simp only [Option.getD_some]
      omega
    · rw [List.getD_eq_getElem?_getD, List.getElem?_eq_none (by omega)]
      simp only [Option.getD_none]
      omega
open PySem in
def R_raised (ds : List PyData) (d : PyData) : Prop := ∃ (n : Nat) (bs : List (List Int)) (k a : Nat) (y : Int), ds = [dBox n bs, .int (k : Int), .int (a : Int), .int y] ∧ Wf n bs ∧ k < bs.length ∧ a < n ∧ d = dBox n (rsd bs k a y)
end Wm

namespace Wc
open PySem PySem.Spec PyProof.Rows L2 Wd Wt Wx Wm Wg Wy Wz
/-- a statement that is not come to -/
def tNever : TS := fun _ _ _ => False
theorem ps_never {X : Cx} {st : Stmt} : PS X st tNever := ⟨fun _ _ _ _ _ _ h => h.elim⟩
section
variable [Tbl] {K : PySem.W.Frag} {σ : L2.St} {H H' H0 : Hp} {ta tb tc te tv : TE} {t : TT} {v : V} {d d1 d2 : PyData} {ds es : List PyData} {D : Ends} {tu tw tz : TS} {p : Addr} {n : Nat} {i j k : Int}
theorem ed_chainI {f g : Int → Int → Bool} (ha : ED ta σ H (.int i)) (hb : ED tb σ H (.int j)) (hc : ED tc σ H (.int k)) : ED (tChain (rI0 fun i j => .bl (f i j)) (rI0 fun i j => .bl (g i j)) ta tb tc) σ H (.bool (f i j && g j k)) := fun H1 x Q q =>
  ha H1 x _ fun v H2 x2 r => hb H2 (x.trans x2) _ fun w H3 x3 s => ⟨i, j, r.intE, s.intE, f i j, rfl, by
    have x23 := x2.trans x3
    cases hf : f i j with
    | true =>
      refine iteT (hc H3 (x.trans x23) _ fun u H4 x4 z => ⟨j, k, s.intE, z.intE, ?_⟩)
      rw [hf, Bool.true_and] at q
      exact q _ H4 (x23.trans x4) (.bl _)
    | false =>
      refine iteF ?_
      rw [hf, Bool.false_and] at q
      exact q _ H3 x23 (.bl _)⟩
/-- t[:k], t[k:] -/
theorem ed_slTo {k : Nat} (ha : ED ta σ H (.tuple ds)) (hb : ED tb σ H (.int (k : Int))) : ED (tSl (rSlA K) ta tNoPart (tPart tb)) σ H (.tuple (ds.take k)) := fun H1 x Q q =>
  ha H1 x _ fun v H2 x2 r => hb H2 (x.trans x2) _ fun w H3 x3 s => ⟨(k : Int), s.intE, by
    obtain ⟨a, xs, rfl, ha', rs⟩ := (r.ex x3).tupE
    have e1 : HT.sIx xs.length xs.length (some (k : Int)) = min k xs.length := HT.sIx_nat _ _ _
    have e0 : HT.sIx xs.length 0 none = 0 := rfl
    refine ⟨a, xs, rfl, SqR ha', fun h => ?_, fun _ p hp => ?_⟩
    · have hk : xs.length ≤ k := by rw [e1] at h; omega
      have : ds.take k = ds := List.take_of_length_le (by rw [← rs.len]; exact hk)
      rw [this] at q
      exact q _ H3 (x2.trans x3) (.tup ha' rs)
    · have e : cutV xs none (some (k : Int)) = xs.take k := by
        unfold cutV
        rw [e0, e1, List.drop_zero, Nat.sub_zero]
        by_cases hk : k ≤ xs.length
        · rw [Nat.min_eq_left hk]
        · rw [Nat.min_eq_right (by omega), List.take_of_length_le (by omega), List.take_of_length_le (by omega)]
      rw [e]
      exact q _ _ ((x2.trans x3).trans (Ex.new hp)) (.tup (.inl upd_same) ((rs.take k).up (Tx.new hp)))⟩
theorem ed_slFrom {k : Nat} (ha : ED ta σ H (.tuple ds)) (hb : ED tb σ H (.int (k : Int))) : ED (tSl (rSlA K) ta (tPart tb) tNoPart) σ H (.tuple (ds.drop k)) := fun H1 x Q q =>
  ha H1 x _ fun v H2 x2 r => hb H2 (x.trans x2) _ fun w H3 x3 s => ⟨(k : Int), s.intE, by
    obtain ⟨a, xs, rfl, ha', rs⟩ := (r.ex x3).tupE
    have e1 : HT.sIx xs.length 0 (some (k : Int)) = min k xs.length := HT.sIx_nat _ _ _
    have e0 : HT.sIx xs.length xs.length none = xs.length := rfl
    refine ⟨a, xs, rfl, SqR ha', fun h => ?_, fun _ p hp => ?_⟩
    · have hk : min k xs.length = 0 := by rw [e1] at h; omega
      have : ds.drop k = ds := by
        by_cases hk0 : k = 0
        · rw [hk0, List.drop_zero]
        · have : xs.length = 0 := by omega
          have : ds = [] := List.eq_nil_of_length_eq_zero (by rw [← rs.len]; exact this)
          rw [this, List.drop_nil]
      rw [this] at q
      exact q _ H3 (x2.trans x3) (.tup ha' rs)
    · have e : cutV xs (some (k : Int)) none = xs.drop k := by
        unfold cutV
        rw [e0, e1]
        by_cases hk : k ≤ xs.length
        · rw [Nat.min_eq_left hk]
          exact List.take_of_length_le (by rw [List.length_drop]; omega)
        · rw [Nat.min_eq_right (by omega), List.drop_of_length_le (Nat.le_refl _), List.drop_of_length_le (by omega), List.take_nil]
      rw [e]
      exact q _ _ ((x2.trans x3).trans (Ex.new hp)) (.tup (.inl upd_same) ((rs.drop k).up (Tx.new hp)))⟩
theorem ed_catT (ha : ED ta σ H (.tuple ds)) (hb : ED tb σ H (.tuple es)) (hz : ds.length + es.length ≤ 100000) : ED (tOp (rCatA K) ta tb) σ H (.tuple (ds ++ es)) := fun H1 x Q q =>
  ha H1 x _ fun v H2 x2 r => hb H2 (x.trans x2) _ fun w H3 x3 s => by
    obtain ⟨a, xs, rfl, ha', rs⟩ := (r.ex x3).tupE
    obtain ⟨b, ys, rfl, hb', ss⟩ := s.tupE
    have x23 := x2.trans x3
    refine ⟨a, b, xs, ys, rfl, rfl, SqR ha', SqR hb', sz_of (by rw [rs.len, ss.len]; exact hz), fun h => ?_, fun _ h => ?_, fun _ _ p hp => ?_⟩
    · have : ds = [] := List.eq_nil_of_length_eq_zero (by rw [← rs.len, h]; rfl)
      rw [this, List.nil_append] at q
      exact q _ H3 x23 (.tup hb' ss)
    · have : es = [] := List.eq_nil_of_length_eq_zero (by rw [← ss.len, h]; rfl)
      rw [this, List.append_nil] at q
      exact q _ H3 x23 (.tup ha' rs)
    · exact q _ _ (x23.trans (Ex.new hp)) (.tup (.inl upd_same) ((rs.append ss).up (Tx.new hp)))
/-- a, b = e -/
theorem qd_asgP {a b : Nat} (h : ED te σ H (.tuple [d1, d2])) (q : ∀ y z H1, Ex H H1 → Rp H1 y d1 → Rp H1 z d2 → tz D ((σ.set a (some y)).set b (some z)) H1) : tSeq (tAsg te (gTup K 2 (gCons (gName a) (gCons (gName b) gNil)))) tz D σ H := h H (Ex.refl H) _ fun v H1 x r => by
  obtain ⟨p, xs, rfl, hp, rs⟩ := r.tupE
  obtain ⟨y, z, rfl, r1, r2⟩ := rs.e2
  exact ⟨p, [y, z], rfl, SqR hp, rfl, y, [z], rfl, z, [], rfl, rfl, q y z H1 x r1 r2⟩
end
theorem set_cut {α β : Type} (f : α → β) {l : List α} {k : Nat} {x : α} (h : k < l.length) : ((l.map f).take k ++ [f x]) ++ (l.map f).drop (k + 1) = (l.set k x).map f := by
  rw [List.set_eq_take_append_cons_drop, if_pos h]
  simp [List.map_take, List.map_drop]
end Wc
/-! Sets of a tuple's whole numbers: set(t), len, sorted; i in range(n); ranges with two ends; list.insert; None. -/
namespace Wq
open PySem PySem.Spec PyProof.Rows L2 Wd Wt Wx Wm Wg Wy Wz Wc
/-- set(t), t a tuple of ints -/
def rSetT (K : PySem.W.Frag) (w : World) : List V → Hp → VK → Prop := fun vs H Q => ∃ (p : Addr) (ns : List Int), vs = [V.ref p] ∧ SqT K H p (ns.map V.int) ∧ ns.length ≤ 1000 ∧
  ∀ (a : Addr) (l : List Int), H a = none → l.Nodup → (∀ j, j ∈ l ↔ j ∈ ns) → Q (.ref a) (upd H a (SetO w a (fun j => decide (j ∈ ns)) l.length))
theorem setTK {X : Cx} {K : PySem.W.Frag} {w : World} (hK : X.K = K) (hw : X.w = w) (hc : X.calm = true) : CallR X (.type "set") (rSetT K w) := by
  subst hK
  subst hw
  intro pins s σ H vs us Q I r h
  obtain ⟨p, ns, rfl, hq, hl, q⟩ := h
  obtain ⟨its, rv, pt, hz⟩ := I.tuple hq
  have hi : IntsAre its.toArray.toList ns := ints_of_vals rv
  rw [Vals.ref1 r]
  refine call_set_tupI ns (I.ok.hd hc) (show s.heap.IsTuple p its.toArray from pt) hi (by unfold scanBound; omega) fun h' tk c R1 hcn k => ?_
  have R2 := R1
  obtain ⟨o, es, ep, t, ho, hex, hdt, g, nd, hm2, hb, hf, hn, hr, hl2⟩ := R1
  have hq := q s.heap.objs.size (es.toList.map keyOf) (I.hok.fresh (Nat.le_refl _)) nd fun j => by rw [← hm2 j, decide_eq_true_eq]
  have e : (es.toList.map keyOf).length = c := by rw [List.length_map, Array.length_toList, hn]
  rw [e] at hq
  exact ⟨.ref s.heap.objs.size, _, I.laid (t' := tk) k (Nat.le_refl _) (setO_new R2), rfl, hq⟩
def rLenS (w : World) : List V → Hp → VK → Prop := fun vs H Q => ∃ (a : Addr) (S : Int → Bool) (n : Nat), vs = [V.ref a] ∧ H a = some (SetO w a S n) ∧ Q (.int (n : Nat)) H
theorem lenSK {X : Cx} {w : World} (hw : X.w = w) : CallR X (.builtin "len") (rLenS w) := by
  subst hw
  intro pins s σ H vs us Q I r h
  obtain ⟨a, S, n, rfl, ha, q⟩ := h
  obtain ⟨o, es, ep, t, ho, hex, hdt, g, nd, hm2, hb, hf, hn, hr, hl2⟩ := setO_get I ha
  rw [Vals.ref1 r]
  refine call_len_set ho hex hdt hf (by unfold scanBound at hb; omega) ⟨.int n, H, I.tok _, ⟨_, by rw [hn]⟩, q⟩
theorem sortedSK {X : Cx} {w : World} (hw : X.w = w) (hc : X.calm = true) : CallR X (.builtin "sorted") (rSortedSet w) := by
  subst hw
  exact cr_sortedSet hc
/-- i not in range(..) -/
theorem op_notInRng {X : Cx} : OpR X (compareOp .NotIn) (fun x y H Q => ∃ i a lo hi, x = V.int i ∧ y = V.ref a ∧ H a = some (.rng lo hi) ∧ Q (.bl (!decide (lo ≤ i ∧ i < hi))) H) := by
  intro pins s σ H x y v u Q I rx ry h
  obtain ⟨i, a, lo, hi, rfl, rfl, ha, q⟩ := h
  obtain ⟨k, rfl⟩ := rx
  obtain rfl : u = Value.ref a := ry
  obtain ⟨t1, t2, t3, ho⟩ := I.hok a _ ha
  show wpAny _ _ (do return Value.bool (!(← contains (Value.ref a) (Value.int i k)))) _ _ s
  refine wpAny_bind (wpAny_contains_slot (T := "range") ⟨_, ho, rfl⟩ F.slot_range_contains (call_meets F.slot_range_contains ⟨_, ho, rfl⟩ F.entry_range_contains (F.args_range_contains_2 _ _) (q_contains a lo hi i t1 t2 t3 k)
    ⟨ho, wpAny_truthy_bool (wpAny_pure ⟨.bl _, H, I, rfl, ?_⟩)⟩))
  rw [place1]
  exact q
theorem cr_range1 {X : Cx} : CallR X (.type "range") (fun vs H Q => ∃ j, vs = [V.int j] ∧ ∀ p, H p = none → Q (.ref p) (upd H p (.rng 0 j))) := by
  intro pins s σ H vs us Q I r h
  obtain ⟨j, rfl, q⟩ := h
  obtain ⟨u, rfl, rj⟩ := vals1 r
  obtain ⟨u, rfl⟩ := rj
  exact call_range_1 ⟨.ref s.heap.objs.size, upd H s.heap.objs.size (.rng 0 j), I.laid (t' := s.toks + 1 + 1) (fun b o e => Heap.get?_push_of_some _ e) (Nat.le_refl _) ⟨s.toks, u, s.toks + 1, Heap.get?_push_size _ rfl⟩, rfl, q _ (I.hok.fresh (Nat.le_refl _))⟩
/-- two rising lists of the same members are one -/
theorem rise_uniq : ∀ {l m : List Int}, l.Pairwise (· < ·) → m.Pairwise (· < ·) → (∀ j, j ∈ l ↔ j ∈ m) → l = m
  | [], [], _, _, _ => rfl
  | [], b :: m, _, _, h => nomatch (h b).mpr List.mem_cons_self
  | a :: l, [], _, _, h => nomatch (h a).mp List.mem_cons_self
  | a :: l, b :: m, hl, hm, h => by
    obtain ⟨l1, l2⟩ := List.pairwise_cons.mp hl
    obtain ⟨m1, m2⟩ := List.pairwise_cons.mp hm
    have e : a = b := by
      rcases List.mem_cons.mp ((h a).mp List.mem_cons_self) with e | e
      · exact e
      · rcases List.mem_cons.mp ((h b).mpr List.mem_cons_self) with e2 | e2
        · exact e2.symm
        · have := m1 a e
          have := l1 b e2
          omega
    subst e
    rw [rise_uniq l2 m2 fun j => ⟨fun hj => ?_, fun hj => ?_⟩]
    · rcases List.mem_cons.mp ((h j).mp (List.mem_cons_of_mem _ hj)) with e | e
      · subst e
        exact absurd (l1 j hj) (Int.lt_irrefl _)
      · exact e
    · rcases List.mem_cons.mp ((h j).mpr (List.mem_cons_of_mem _ hj)) with e | e
      · subst e
        exact absurd (m1 j hj) (Int.lt_irrefl _)
      · exact e
section
variable [Tbl] {K : PySem.W.Frag} {w : World} {σ : L2.St} {H H' H0 : Hp} {ta tb tc te tv : TE} {t : TT} {v : V} {d d1 d2 : PyData} {ds es : List PyData} {D : Ends} {tu tw tz : TS} {p : Addr} {n : Nat} {i j k : Int} {ns l : List Int}
theorem set_core (h : ED ta σ H (.tuple (ns.map PyData.int))) (hz : ns.length ≤ 1000) {Q : VK} {H1 : Hp} (x : Ex H H1) (q : ∀ (a : Addr) (l : List Int) (H2 : Hp), Nw H1 a → Ex H1 H2 → l.Nodup → (∀ j, j ∈ l ↔ j ∈ ns) → H2 a = some (SetO w a (fun j => decide (j ∈ ns)) l.length) → Q (.ref a) H2) :
    tCB (rSetT K w) (tCons ta tNil) σ H1 Q := h H1 x _ fun v H2 x2 r => by
  obtain ⟨a, xs, rfl, ha, rs⟩ := r.tupE
  rw [rs.intsE] at ha
  exact ⟨a, ns, rfl, SqR ha, hz, fun b l hb hl hm => q b l _ (fresh_back x2 (.of hb)) (x2.trans (Ex.new hb)) hl hm upd_same⟩
/-- len(set(t)) -/
theorem ed_lenSet (h : ED ta σ H (.tuple (ns.map PyData.int))) (hz : ns.length ≤ 1000) (hn : ns.Nodup) : ED (tCB (rLenS w) (tCons (tCB (rSetT K w) (tCons ta tNil)) tNil)) σ H (.int (ns.length : Int)) := fun H1 x Q q =>
  set_core h hz x fun a l H2 _ x2 hl hm ha => ⟨a, _, l.length, rfl, ha, by
    have e : l.length = ns.length := (List.perm_ext_iff_of_nodup hl hn |>.mpr hm).length_eq
    rw [e]
    exact q _ H2 x2 (.int _)⟩
/-- sorted(set(t)) -/
theorem el_sortedSet (h : ED ta σ H (.tuple (ns.map PyData.int))) (hz : ns.length < 64) (hl : l.Pairwise (· < ·)) (hm : ∀ j, j ∈ l ↔ j ∈ ns) : EL (tCB (rSortedSet w) (tCons (tCB (rSetT K w) (tCons ta tNil)) tNil)) σ H (l.map PyData.int) := fun H1 x Q q =>
  set_core h (by omega) x fun a l2 H2 na x2 hl2 hm2 ha => ⟨a, _, l2.length, rfl, ha, by
    have hln : l2.length ≤ ns.length := by
      refine Classical.byContradiction fun z => ?_
      have key : ∀ (A B : List Int), A.Nodup → (∀ x ∈ A, x ∈ B) → A.length ≤ B.length := fun A => by
        induction A with
        | nil => intro B _ _; exact Nat.zero_le _
        | cons a A ih =>
          intro B hA hs
          rw [List.nodup_cons] at hA
          have ha := hs a List.mem_cons_self
          have := ih (B.erase a) hA.2 fun x hx => by
            have : x ≠ a := fun z => hA.1 (z ▸ hx)
            exact (List.mem_erase_of_ne this).mpr (hs x (List.mem_cons_of_mem _ hx))
          rw [List.length_erase_of_mem ha] at this
          have : 0 < B.length := List.length_pos_of_mem ha
          simp only [List.length_cons]
          omega
      have := key l2 ns hl2 fun x hx => (hm2 x).mp hx
      omega
    omega, fun ms b h1 h2 _ hb => by
    have e : ms = l := rise_uniq h1 hl fun j => by rw [h2 j, hm j, decide_eq_true_eq]
    rw [e]
    exact q b _ (fresh_back x2 (.of hb)) (x2.trans (Ex.new hb)) ⟨_, upd_same, (RpA.ints l).up (Tx.new hb)⟩⟩
/-- i not in range(n) -/
theorem et_notInRng (ha : ED ta σ H (.int i)) (hb : ED tb σ H (.int j)) : EvT (tTest (tOp (fun x y H Q => ∃ i a lo hi, x = V.int i ∧ y = V.ref a ∧ H a = some (.rng lo hi) ∧ Q (.bl (!decide (lo ≤ i ∧ i < hi))) H) ta (tCB (fun vs H Q => ∃ j, vs = [V.int j] ∧ ∀ p, H p = none → Q (.ref p) (upd H p (.rng 0 j))) (tCons tb tNil)))) σ H (!decide (0 ≤ i ∧ i < j)) := fun H1 x Q q =>
  ha H1 x _ fun v H2 x2 r => hb H2 (x.trans x2) _ fun w H3 x3 s => ⟨j, by rw [s.intE], fun p hp => ⟨i, p, 0, j, r.intE, rfl, upd_same, _, rfl, q _ ((x2.trans x3).trans (Ex.new hp))⟩⟩
/-- [f for k in range(a, b)] -/
theorem el_lcR2 {ta : TA} {j : Nat} {vs : List Nat} {a b : Nat} (f : Nat → PyData) (h : EA ta σ H [.int (a : Int), .int (b : Int)]) (hb : b ≤ 40000) (ha : a ≤ b) (hw : ∀ x, wipe ((wipe σ vs).set j (some x)) vs = wipe σ vs)
    (hg : ∀ (i : Nat) H1, Ex H H1 → a ≤ i → i < b → ED te ((wipe σ vs).set j (some (.int (i : Int)))) H1 (f i)) :
    EL (tLc (iRng2 ta) (gName j) tYes te vs) σ H ((List.range (b - a)).map fun i => f (a + i)) := fun H0 x0 Q q => h H0 x0 _ fun us H1 x1 r => by
  obtain ⟨v, w, rfl, r0, r1⟩ := r.e2
  refine ⟨a, b, by rw [r0.intE, r1.intE], by omega, fun Dl hD => ?_⟩
  have hab : ((b : Int) - (a : Int)).toNat = b - a := by omega
  refine lc_range (lo := (a : Int)) (n := ((b : Int) - (a : Int)).toNat) (fun i H' => Cwd H1 Dl (((List.range (b - a)).take i).map fun i => f (a + i)) H') ⟨.of hD, Ex.new hD, [], upd_same, .nil⟩ (fun i H' hi c => ?_) (fun H' c => ?_)
  · have hin : i < b - a := by omega
    have e0 : (a : Int) + (i : Int) = ((a + i : Nat) : Int) := by omega
    show wipe ((wipe σ vs).set j (some (.int ((a : Int) + (i : Int))))) vs = wipe σ vs ∧ tYes ((wipe σ vs).set j (some (.int ((a : Int) + (i : Int))))) H' _
    rw [e0]
    refine ⟨hw _, ?_⟩
    have hlen : (((List.range (b - a)).take i).map fun i => f (a + i)).length < 100000 := by
      rw [List.length_map, List.length_take, List.length_range]
      omega
    refine cwd_turn (es := ((List.range (b - a)).take i).map fun i => f (a + i)) (p := true) (y := f (a + i)) c hlen et_yes (fun _ => hg (a + i) H1 (x0.trans x1) (by omega) (by omega)) (fun _ H2 c2 => ?_) (fun z => by cases z)
    rw [List.take_add_one, List.getElem?_range hin, List.map_append]
    exact c2
  · have e : (List.range (b - a)).take ((b : Int) - (a : Int)).toNat = List.range (b - a) := List.take_of_length_le (by simp)
    rw [e] at c
    exact q Dl H' (fresh_back x1 c.1) (x1.trans c.2.1) c.2.2
/-- x is None -/
def isNo : PyData → Bool
  | .none => true
  | _ => false
theorem Rp.isNo {v : V} (r : Rp H v d) : decide (v = .non) = isNo d := by
  cases r <;> rfl
theorem ed_isN (ha : ED ta σ H d) : ED (tOp (fun x y H Q => y = V.non ∧ Q (.bl (decide (x = V.non))) H) ta (tC .non)) σ H (.bool (isNo d)) := fun H1 x Q q =>
  ha H1 x _ fun v H2 x2 r => ⟨rfl, by rw [Rp.isNo r]; exact q _ H2 x2 (.bl _)⟩
/-- l.insert(0, e) -/
theorem sd_ins0 (e0 : Ex H0 H) (h0 : Nw H0 p) (hp : LAt H p ds) (ha : Ev ta σ H (.ref p)) (h : ED te σ H d) (hz : ds.length < 100000)
    (k : ∀ H2, Ex H0 H2 → LAt H2 p (d :: ds) → Tx H H2 → But p H H2 → D.nx σ H2) :
    tDrop (tBM K "list" (fun x vs H Q => ∃ (l : Addr) (xs : List V) (i : Int) (y : V), x = .ref l ∧ vs = [.int i, y] ∧ H l = some (.lst xs) ∧ xs.length < sizeLine ∧ 0 ≤ i ∧ i < 2 ^ 63 ∧ Q .non (upd H l (.lst (xs.take i.toNat ++ [y] ++ xs.drop i.toNat)))) ta (tCons (tC (.int 0)) (tCons te tNil))) D σ H := ha H (.refl H) _ fun H1 e1 => by
  obtain ⟨vs, h1, r1⟩ := hp
  refine ⟨.inl ⟨rfl, vs, SqL.of (e1.at h1)⟩, h H1 e1 _ fun v H2 e2 r => ⟨p, vs, 0, v, rfl, rfl, e2.at (e1.at h1), sz_lt (by rw [r1.len]; exact hz), by decide, by decide, ?_⟩⟩
  have e12 := e1.trans e2
  have t : Tx H2 (upd H2 p (.lst (vs.take (0 : Int).toNat ++ [v] ++ vs.drop (0 : Int).toNat))) := Tx.upd (e12.at h1) True.intro
  refine k _ (Ex.mut (e0.trans e12) h0 (e12.at h1)) ⟨_, upd_same, ?_⟩ ((Tx.of e12).trans t) fun a o n q m => ?_
  · exact (RpA.cons r (r1.ex e12)).up t
  · rw [upd_ne n]
    exact e12.at q m
end
end Wq

namespace Wg
/-! ### chains and walls -/
section
variable {L : Nat → Nat → Int} {n one : Nat} {M : Int} {fd : Fd}
inductive Chn (fd : Fd) : List Nat → Prop
  | one (x : Nat) : Chn fd [x]
  | cons {a b : Nat} {l : List Nat} {p : Int} : Wt.lookD fd b = some (p, some a) → Chn fd (b :: l) → Chn fd (a :: b :: l)
theorem Gr.edge (g : Gr L n one M fd) {a b : Nat} {p : Int} (h : Wt.lookD fd b = some (p, some a)) : ∃ q s, Wt.lookD fd a = some (q, s) ∧ p = min q (L a b) ∧ 0 < p := by
  obtain ⟨D, d, hD⟩ := g.ex
  have hb : b ≠ one := fun z => by
    rw [z, d.st] at h
    cases h
  obtain ⟨y, q, s, h1, h2, h3, h4, h5, _⟩ := d.prev b p _ h hb
  cases h1
  exact ⟨q, s, h2, h4, h5⟩
theorem Gr.least (g : Gr L n one M fd) : ∀ {l : List Nat} {a : Nat} {pa : Int} {ra : Option Nat} {x : Nat} {px : Int} {rx : Option Nat}, Chn fd (a :: l) → Wt.lookD fd a = some (pa, ra) → (a :: l).getLast? = some x → Wt.lookD fd x = some (px, rx) →
    px ≤ pa ∧ (∀ i, i + 1 < (a :: l).length → px ≤ L ((a :: l).getD i 0) ((a :: l).getD (i + 1) 0)) ∧ (px = pa ∨ ∃ i, i + 1 < (a :: l).length ∧ L ((a :: l).getD i 0) ((a :: l).getD (i + 1) 0) = px)
  | [], a, pa, ra, x, px, rx, _, ha, hx, hpx => by
    have : a = x := by simpa using hx
    subst this
    rw [ha] at hpx
    cases hpx
    exact ⟨Int.le_refl _, fun i hi => by simp at hi, .inl rfl⟩
  | b :: l, a, pa, ra, x, px, rx, hc, ha, hx, hpx => by
    cases hc with
    | @cons _ _ _ pb hb hc =>
      obtain ⟨q, s, h1, h2, h3⟩ := g.edge hb
      rw [ha] at h1
      cases h1
      obtain ⟨i1, i2, i3⟩ := g.least hc hb (by simpa using hx) hpx
      refine ⟨by omega, fun i hi => ?_, ?_⟩
      · cases i with
        | zero =>
          show px ≤ L a b
          omega
        | succ i => exact i2 i (by simpa using hi)
      · rcases i3 with i3 | ⟨i, hi, e⟩
        · by_cases c : L a b ≤ pa
          · exact .inr ⟨0, by simp, by show L a b = px; omega⟩
          · exact .inl (by omega)
        · exact .inr ⟨i + 1, by simpa using hi, e⟩
/-- what stands ahead of x among those done -/
theorem Gr.rank (g : Gr L n one M fd) : ∃ r : Nat → Nat, (∀ a b p, Wt.lookD fd b = some (p, some a) → r a < r b) := by
  obtain ⟨D, d, hD⟩ := g.ex
  refine ⟨fun x => D.idxOf x, fun a b p h => ?_⟩
  have hb : b ≠ one := fun z => by
    rw [z, d.st] at h
    cases h
  obtain ⟨y, q, s, h1, h2, h3, h4, h5, h6⟩ := d.prev b p _ h hb
  cases h1
  have hbD := hD b (look_mem.mpr ⟨_, h⟩)
  obtain ⟨pre, post, e⟩ := List.append_of_mem hbD
  have ha := h6 pre post e
  have hnd := d.dnd
  rw [e] at hnd ⊢
  have hbp : b ∉ pre := fun z => by
    rw [List.nodup_append] at hnd
    exact hnd.2.2 b z b (by simp) rfl
  show List.idxOf a (pre ++ b :: post) < List.idxOf b (pre ++ b :: post)
  rw [List.idxOf_append, List.idxOf_append, if_pos ha, if_neg hbp, List.idxOf_cons_self]
  have := List.idxOf_lt_length_of_mem ha
  omega
theorem Gr.key_lt (g : Gr L n one M fd) {x : Nat} {a : Int × Option Nat} (h : Wt.lookD fd x = some a) : x < n := by
  obtain ⟨D, d, hD⟩ := g.ex
  exact d.lt x (look_mem.mpr ⟨_, h⟩)
theorem Gr.at_one (g : Gr L n one M fd) : Wt.lookD fd one = some (M, none) := by
  obtain ⟨D, d, hD⟩ := g.ex
  exact d.st
theorem Gr.prev (g : Gr L n one M fd) {x : Nat} {p : Int} {r : Option Nat} (h : Wt.lookD fd x = some (p, r)) (hx : x ≠ one) : ∃ y, r = some y := by
  obtain ⟨D, d, hD⟩ := g.ex
  obtain ⟨y, q, s, h1, _⟩ := d.prev x p r h hx
  exact ⟨y, h1⟩
theorem Gr.pos (g : Gr L n one M fd) {x : Nat} {p : Int} {r : Option Nat} (h : Wt.lookD fd x = some (p, r)) (hx : x ≠ one) : 0 < p := by
  obtain ⟨D, d, hD⟩ := g.ex
  obtain ⟨_, _, _, _, _, _, _, h0, _⟩ := d.prev x p r h hx
  exact h0
theorem Gr.relax (g : Gr L n one M fd) {x y : Nat} {p : Int} {r : Option Nat} (h : Wt.lookD fd x = some (p, r)) (hy : y < n) (h0 : 0 < min p (L x y)) : ∃ q s, Wt.lookD fd y = some (q, s) ∧ min p (L x y) ≤ q := by
  obtain ⟨D, d, hD⟩ := g.ex
  exact (d.rel x y ⟨hD x (look_mem.mpr ⟨_, h⟩), hy⟩).2 p r h h0
end
end Wg
namespace Wq
open PySem PySem.Spec PyProof.Rows L2 Wd Wt Wx Wm Wg Wy Wz Wc
def SpBP [Tbl] (Post : (Nat → Nat → Int) → Nat → Nat → Nat → PyData → Prop) : Sp := fun vs H Q _ => ∃ (n : Nat) (bs : List (List Int)) (i j : Nat), RpA H vs [dBox n bs, .int (i : Int), .int (j : Int)] ∧ Wf n bs ∧ i < n ∧ j < n ∧ i ≠ j ∧ LamX.Tabs Tbl.T H ∧
  ∀ v d H', Ex H H' → Rp H' v d → Post (Wm.lead bs) n i j d → Q v H'
section
variable [Tbl] {K : PySem.W.Frag} {σ : L2.St} {H : Hp} {te : TE} {D : Ends} {tz : TS} {L : Nat → Nat → Int} {n one : Nat}
theorem ep_bp {Post : (Nat → Nat → Int) → Nat → Nat → Nat → PyData → Prop} {E : XK} {ta : TA} {bs : List (List Int)} {i j : Nat} (tbs : LamX.Tabs Tbl.T H) (h : EA ta σ H [dBox n bs, .int (i : Int), .int (j : Int)]) (wf : Wf n bs) (hi : i < n) (hj : j < n) (hij : i ≠ j) : EP (tCall (SpBP Post) [] E ta) σ H (Post (Wm.lead bs) n i j) := fun H1 x Q q =>
  h H1 x _ fun vs H2 x2 r => ⟨n, bs, i, j, by rw [List.append_nil]; exact r, wf, hi, hj, hij, (x.trans x2).tabs tbs, fun v d H3 x3 s p => q v d H3 (x2.trans x3) s p⟩
theorem qg_asg {k : Nat} (h : EG te σ H L n one) (q : ∀ p H1 fd M, Nw H p → Ex H H1 → DAt H1 p (dFd fd) → Gr L n one M fd → (∀ j, j < n → L one j < M) → 0 < M → tz D (σ.set k (some (.ref p))) H1) : tSeq (tAsg te (gName k)) tz D σ H := h H (Ex.refl H) _ q
end
def PostChain (L : Nat → Nat → Int) (n i j : Nat) (d : PyData) : Prop := (sOf L n i j = 0 ∧ d = .none) ∨ (0 < sOf L n i j ∧ ∃ row : List Nat, d = dInts row ∧ 2 ≤ row.length ∧ row.head? = some i ∧ row.getLast? = some j ∧ row.Nodup ∧ (∀ x ∈ row, x < n) ∧
  (∀ k, k + 1 < row.length → sOf L n i j ≤ L (row.getD k 0) (row.getD (k + 1) 0)) ∧ ∃ k, k + 1 < row.length ∧ L (row.getD k 0) (row.getD (k + 1) 0) = sOf L n i j)
def PostWall (L : Nat → Nat → Int) (n i j : Nat) (d : PyData) : Prop := ∃ l : List Nat, d = dInts l ∧ l.Pairwise (· < ·) ∧ i ∈ l ∧ j ∉ l ∧ (∀ x ∈ l, x < n) ∧ ∀ x ∈ l, ∀ y, y < n → y ∉ l → L x y ≤ sOf L n i j
def R_right (ds : List PyData) (d : PyData) : Prop := ∃ (n : Nat) (bs : List (List Int)) (i j : Nat), ds = [dBox n bs, .int (i : Int), .int (j : Int), .int (sOf (Wm.lead bs) n i j)] ∧ Wf n bs ∧ i < n ∧ j < n ∧ i ≠ j ∧ d = .bool true
theorem dInts_ints (l : List Nat) : dInts l = .tuple ((l.map fun x : Nat => (x : Int)).map PyData.int) := by
  unfold dInts
  rw [List.map_map]
  rfl
theorem mem_cast {l : List Nat} {m : Nat} : ((m : Int) ∈ l.map fun x : Nat => (x : Int)) ↔ m ∈ l := by
  refine ⟨fun h => ?_, fun h => List.mem_map.mpr ⟨m, h, rfl⟩⟩
  obtain ⟨x, hx, e⟩ := List.mem_map.mp h
  have : x = m := by omega
  exact this ▸ hx
end Wq
/-! The crowd, the best. -/
namespace Wg
/-- each of S beats all outside -/
def Dom (L : Nat → Nat → Int) (n : Nat) (S : Nat → Prop) : Prop := ∀ x y, x < n → y < n → S x → ¬ S y → 0 < L x y
/-- the least such crowd with a name -/
noncomputable def clOf (L : Nat → Nat → Int) (n one : Nat) : List Nat := (List.range n).filter fun x => @decide (∀ S : Nat → Prop, Dom L n S → S one → S x) (Classical.propDecidable _)
/-- the least of all -/
noncomputable def crwOf (L : Nat → Nat → Int) (n : Nat) : List Nat := (List.range n).filter fun x => @decide (∀ S : Nat → Prop, Dom L n S → (∃ s, s < n ∧ S s) → S x) (Classical.propDecidable _)
section
variable {L : Nat → Nat → Int} {n one x : Nat}
theorem mem_cl : x ∈ clOf L n one ↔ x < n ∧ ∀ S : Nat → Prop, Dom L n S → S one → S x := by
  unfold clOf
  rw [List.mem_filter, List.mem_range, @decide_eq_true_eq _ (Classical.propDecidable _)]
theorem mem_crw : x ∈ crwOf L n ↔ x < n ∧ ∀ S : Nat → Prop, Dom L n S → (∃ s, s < n ∧ S s) → S x := by
  unfold crwOf
  rw [List.mem_filter, List.mem_range, @decide_eq_true_eq _ (Classical.propDecidable _)]
theorem cl_rise : (clOf L n one).Pairwise (· < ·) := List.Pairwise.filter _ List.pairwise_lt_range
theorem crw_rise : (crwOf L n).Pairwise (· < ·) := List.Pairwise.filter _ List.pairwise_lt_range
theorem cl_dom : Dom L n fun x => x ∈ clOf L n one := fun x y hx hy h1 h2 => by
  refine Classical.byContradiction fun z => h2 (mem_cl.mpr ⟨hy, fun S hS h => Classical.byContradiction fun hn => z ?_⟩)
  exact hS x y hx hy ((mem_cl.mp h1).2 S hS h) hn
theorem cl_self (h : one < n) : one ∈ clOf L n one := mem_cl.mpr ⟨h, fun _ _ h => h⟩
theorem nodup_rise {l : List Nat} (h : l.Pairwise (· < ·)) : l.Nodup := h.imp fun h => by omega
/-- two such crowds: the one within the other -/
theorem dom_nest (anti : ∀ a b, L b a = -L a b) {S T : Nat → Prop} (hS : Dom L n S) (hT : Dom L n T) : (∀ x, x < n → S x → T x) ∨ (∀ x, x < n → T x → S x) := by
  refine Classical.byContradiction fun z => ?_
  rw [not_or] at z
  obtain ⟨z1, z2⟩ := z
  obtain ⟨a, ha⟩ := Classical.not_forall.mp z1
  obtain ⟨b, hb⟩ := Classical.not_forall.mp z2
  rw [Classical.not_imp, Classical.not_imp] at ha hb
  have h1 := hS a b ha.1 hb.1 ha.2.1 hb.2.2
  have h2 := hT b a hb.1 ha.1 hb.2.1 ha.2.2
  have := anti a b
  omega
/-- the shortest of the least ones is the least of all -/
theorem crw_of (anti : ∀ a b, L b a = -L a b) {i : Nat} (hi : i < n) (h : ∀ j, j < n → (clOf L n i).length ≤ (clOf L n j).length) : crwOf L n = clOf L n i := by
  unfold crwOf clOf
  refine List.filter_congr fun x hx => ?_
  have hx := List.mem_range.mp hx
  refine (@decide_eq_decide _ _ (Classical.propDecidable _) (Classical.propDecidable _)).mpr ?_
  constructor
  · exact fun k S hS h => k S hS ⟨i, hi, h⟩
  · intro k S hS ⟨s, hs, hsS⟩
    have hxi : x ∈ clOf L n i := mem_cl.mpr ⟨hx, k⟩
    have hsub : ∀ y ∈ clOf L n s, S y := fun y hy => (mem_cl.mp hy).2 S hS hsS
    refine hsub x ?_
    rcases dom_nest anti (cl_dom (one := i)) (cl_dom (one := s)) with q | q
    · exact q x hx hxi
    · have hl := h s hs
      exact nodup_full (nodup_rise cl_rise) (fun y hy => q y (mem_cl.mp hy).1 hy) hl x hxi
theorem min_at {f : Nat → Nat} : ∀ {n : Nat}, 0 < n → ∃ i, i < n ∧ ∀ j, j < n → f i ≤ f j
  | 1, _ => ⟨0, by omega, fun j hj => by
    have : j = 0 := by omega
    rw [this]
    exact Nat.le_refl _⟩
  | n + 2, _ => by
    obtain ⟨i, hi, h⟩ := min_at (f := f) (n := n + 1) (by omega)
    by_cases c : f i ≤ f (n + 1)
    · refine ⟨i, by omega, fun j hj => ?_⟩
      by_cases e : j = n + 1
      · rw [e]; exact c
      · exact h j (by omega)
    · refine ⟨n + 1, by omega, fun j hj => ?_⟩
      by_cases e : j = n + 1
      · rw [e]; exact Nat.le_refl _
      · have := h j (by omega)
        omega
theorem crw_ex (anti : ∀ a b, L b a = -L a b) (hn : 0 < n) : ∃ i, i < n ∧ crwOf L n = clOf L n i := by
  obtain ⟨i, hi, h⟩ := min_at (f := fun i => (clOf L n i).length) hn
  exact ⟨i, hi, crw_of anti hi h⟩
theorem crw_dom (anti : ∀ a b, L b a = -L a b) (hn : 0 < n) : Dom L n (fun x => x ∈ crwOf L n) ∧ ∃ s, s < n ∧ s ∈ crwOf L n := by
  obtain ⟨i, hi, e⟩ := crw_ex anti hn
  rw [e]
  exact ⟨cl_dom, i, hi, cl_self hi⟩
/-- who beats all -/
def allB (L : Nat → Nat → Int) (n i : Nat) : Bool := (((List.range n).filter fun j : Nat => !decide ((j : Int) = (i : Int))).map fun j => decide (0 < L i j)).all id
def bst (L : Nat → Nat → Int) (n : Nat) : Option Nat := (List.range n).find? (allB L n)
theorem allB_iff {i : Nat} : allB L n i = true ↔ ∀ j, j < n → j ≠ i → 0 < L i j := by
  unfold allB
  rw [List.all_eq_true]
  constructor
  · intro h j hj hji
    have := h (decide (0 < L i j)) (List.mem_map.mpr ⟨j, List.mem_filter.mpr ⟨List.mem_range.mpr hj, by
      have : ¬ (j : Int) = (i : Int) := by omega
      rw [decide_eq_false this]
      rfl⟩, rfl⟩)
    exact of_decide_eq_true this
  · intro h b hb
    obtain ⟨j, hj, rfl⟩ := List.mem_map.mp hb
    rw [List.mem_filter, List.mem_range, Bool.not_eq_true', decide_eq_false_iff_not] at hj
    exact decide_eq_true (h j hj.1 (by omega))
theorem bst_some (anti : ∀ a b, L b a = -L a b) {i : Nat} : bst L n = some i ↔ i < n ∧ ∀ j, j < n → j ≠ i → 0 < L i j := by
  unfold bst
  constructor
  · intro h
    exact ⟨List.mem_range.mp (List.mem_of_find?_eq_some h), allB_iff.mp (List.find?_some h)⟩
  · rintro ⟨hi, h⟩
    cases e : (List.range n).find? (allB L n) with
    | none =>
      rw [List.find?_eq_none] at e
      exact absurd (allB_iff.mpr h) (e i (List.mem_range.mpr hi))
    | some k =>
      have hk := List.mem_range.mp (List.mem_of_find?_eq_some e)
      have h2 := allB_iff.mp (List.find?_some e)
      by_cases c : k = i
      · rw [c]
      · have a1 := h k hk c
        have a2 := h2 i hi (Ne.symm c)
        have := anti i k
        omega
end
end Wg
namespace Wm
theorem lead_anti (bs : List (List Int)) (a b : Nat) : lead bs b a = -lead bs a b := by
  unfold lead
  induction bs with
  | nil => rfl
  | cons x bs ih =>
    rw [List.map_cons, List.map_cons, List.sum_cons, List.sum_cons, ih]
    have : sgnAt x b a = -sgnAt x a b := by
      unfold sgnAt sgn
      omega
    omega
end Wm
namespace Wj
open PySem PySem.Spec PyProof.Rows L2 Wd Wt Wx Wm Wg Wy Wz Wc Wq
section
variable [Tbl] {K : PySem.W.Frag} {σ : L2.St} {H H' H0 : Hp} {ta tb te tl : TE} {v : V} {d : PyData} {ds es : List PyData} {D : Ends} {tu tw tz : TS} {p : Addr} {n : Nat}
theorem si_core {ns l : List Int} {H1 : Hp} (hL : LAt H1 p (ns.map PyData.int)) (hn : ns.Nodup) (hl : l.Pairwise (· < ·)) (hm : ∀ j, j ∈ l ↔ j ∈ ns) {Q : VK} (q : ∀ p H2, Nw H1 p → Ex H1 H2 → LAt H2 p (l.map PyData.int) → Q (.ref p) H2) : rSortedI K [.ref p] H1 Q := by
  obtain ⟨xs, h1, rs⟩ := hL
  rw [rs.intsE] at h1
  refine ⟨p, ns, rfl, SqL.of h1, fun ns' p' h3 h4 hp' => ?_⟩
  have h5 : ns'.Pairwise (· < ·) := by
    have h6 : ns'.Nodup := h3.nodup_iff.mpr hn
    exact (List.pairwise_and_iff.mpr ⟨h4, h6⟩).imp fun ⟨a, b⟩ => by omega
  rw [rise_uniq h5 hl fun j => by rw [h3.mem_iff, hm j]]
  exact q p' _ (.of hp') (Ex.new hp') ⟨_, upd_same, (RpA.ints l).up (Tx.new hp')⟩
/-- sorted(unlike whole numbers) -/
theorem el_sortedIL {ns l : List Int} (h : Ev te σ H (.ref p)) (hL : LAt H p (ns.map PyData.int)) (hn : ns.Nodup) (hl : l.Pairwise (· < ·)) (hm : ∀ j, j ∈ l ↔ j ∈ ns) : EL (tCB (rSortedI K) (tCons te tNil)) σ H (l.map PyData.int) :=
  el_cbV h fun H1 x Q q => si_core (hL.ex x) hn hl hm q
theorem el_sortedIN {ns l : List Int} (h : EL te σ H (ns.map PyData.int)) (hn : ns.Nodup) (hl : l.Pairwise (· < ·)) (hm : ∀ j, j ∈ l ↔ j ∈ ns) : EL (tCB (rSortedI K) (tCons te tNil)) σ H (l.map PyData.int) :=
  el_cbL h fun p H1 _ hL Q q => si_core hL hn hl hm q
/-- min(l, key=lambda x: ..) of a new list of data -/
theorem ek_minD {i : Nat} {α : Type} {l : List α} {enc : α → PyData} (tbs : LamX.Tabs Tbl.T H) (hne : l ≠ []) (hl : EL te σ H (l.map enc)) (kf : α → Int) (hk : ∀ x ∈ l, ∀ v H1, Ex H H1 → Rp H1 v (enc x) → ED tb (σ.set i (some v)) H1 (.int (kf x))) :
    EP (Wk.tKey_min K te tb i) σ H (fun d => ∃ x ∈ l, d = enc x ∧ ∀ y ∈ l, kf x ≤ kf y) := fun H1 x1 Q q => hl H1 x1 _ fun p H2 hp x2 hL => by
  obtain ⟨xs, h1, h2⟩ := hL
  have hlen : xs.length = l.length := by rw [h2.len, List.length_map]
  have hpos : 0 < l.length := List.length_pos_iff.mpr hne
  let kg : Nat → Int := fun j => if h : j < l.length then kf l[j] else 0
  have kge : ∀ j a, l[j]? = some a → kg j = kf a := fun j a h => by
    obtain ⟨h3, h4⟩ := List.getElem?_eq_some_iff.mp h
    show (if h : j < l.length then kf l[j] else 0) = kf a
    rw [dif_pos h3, h4]
  have at_ : ∀ (j : Nat) (x : V), xs[j]? = some x → ∃ a, l[j]? = some a ∧ Rp H2 x (enc a) := fun j x hx => by
    obtain ⟨d, hd, rd⟩ := h2.getV hx
    rw [List.getElem?_map] at hd
    cases hc : l[j]? with
    | none => rw [hc] at hd; cases hd
    | some a =>
      rw [hc] at hd
      obtain rfl : enc a = d := Option.some.inj hd
      exact ⟨a, rfl, rd⟩
  refine ⟨(x1.trans x2).tabs tbs, p, xs, kg, rfl, by omega, SqL.of h1, fun H3 x3 => ⟨fun j x H4 hx x4 => ?_, fun j x H4 hx best x4 => ?_⟩⟩
  · obtain ⟨a, ha, ra⟩ := at_ j x hx
    refine hk a (List.mem_of_getElem? ha) x H4 (((x1.trans x2).trans x3).trans x4) (ra.ex (x3.trans x4)) H4 (.refl _) _ fun v H5 x5 r => ⟨?_, x4.trans x5⟩
    rw [r.intE, kge j a ha]
  · obtain ⟨a, ha, ra⟩ := at_ j x hx
    refine q _ _ H4 ((x2.trans x3).trans x4) (ra.ex (x3.trans x4)) ⟨a, List.mem_of_getElem? ha, rfl, fun y hy => ?_⟩
    obtain ⟨b, hb, eb⟩ := List.getElem_of_mem hy
    have k := (best b (by rw [hlen]; exact hb)).1
    have k : kg j ≤ kg b := k
    rw [kge j a ha, kge b y (by rw [List.getElem?_eq_getElem hb, eb])] at k
    exact k
end
def R_closed (ds : List PyData) (d : PyData) : Prop := ∃ (n : Nat) (bs : List (List Int)) (i : Nat), ds = [dBox n bs, .int (i : Int)] ∧ Wf n bs ∧ i < n ∧ d = dInts (clOf (Wm.lead bs) n i)
def R_crowd (ds : List PyData) (d : PyData) : Prop := ∃ (n : Nat) (bs : List (List Int)), ds = [dBox n bs] ∧ Wf n bs ∧ 0 < n ∧ d = dInts (crwOf (Wm.lead bs) n)
def R_best (ds : List PyData) (d : PyData) : Prop := ∃ (n : Nat) (bs : List (List Int)), ds = [dBox n bs] ∧ Wf n bs ∧ d = dOpt (bst (Wm.lead bs) n)
end Wj
namespace Wj
open PySem PySem.Spec PyProof.Rows L2 Wd Wt Wx Wm Wg Wy Wz Wc Wq
theorem qd_ext [Tbl] {K : PySem.W.Frag} {σ : L2.St} {H H0 : Hp} {ta te : TE} {ds es : List PyData} {D : Ends} {tz : TS} {p : Addr} (e0 : Ex H0 H) (h0 : Nw H0 p) (hp : LAt H p ds) (ha : Ev ta σ H (.ref p)) (h : EL te σ H es) (hz : ds.length + es.length ≤ 100000)
    (k : ∀ H2, Ex H0 H2 → LAt H2 p (ds ++ es) → Tx H H2 → But p H H2 → tz D σ H2) : tSeq (tDrop (tBM K "list" rExtend ta (tCons te tNil))) tz D σ H := sd_ext (D := { D with nx := tz D }) e0 h0 hp ha h hz k
end Wj
namespace Wj
open L2 Wd PySem
theorem ep_ret [Tbl] {te : TE} {σ : L2.St} {H : Hp} {P : PyData → Prop} {D : Ends} (h : EP te σ H P) (k : ∀ v d H1, Ex H H1 → Rp H1 v d → P d → D.rt v H1) : tRet te D σ H := h H (Ex.refl H) _ k
end Wj
/-! Tuples known to their object: index, count; names under other numbers; orders turned about. -/
namespace Wi
open PySem PySem.Spec PyProof.Rows L2 Wd Wt Wx Wm Wg Wy Wz Wc Wq Wj
/-- the tuple's object is known, it has no dict -/
def Nd (H : Hp) (v : V) : Prop := ∃ (a : Addr) (o : Obj) (xs : List V), v = .ref a ∧ H a = some (.frz o (.tup xs)) ∧ o.dict = none
theorem Nd.ex [Tbl] {H H' : Hp} {v : V} (h : Nd H v) (e : Ex H H') : Nd H' v := by
  obtain ⟨a, o, xs, h1, h2, h3⟩ := h
  exact ⟨a, o, xs, h1, e.at h2, h3⟩
/-- tuple(a list): a new one, known -/
def rTupF (K : PySem.W.Frag) : List V → Hp → VK → Prop := fun xs H Q => ∃ p ys, xs = [.ref p] ∧ SqL K H p ys ∧ ∀ l o, H l = none → o.dict = none → Q (.ref l) (upd H l (.frz o (.tup ys)))
theorem tupleFK {X : Cx} {K : PySem.W.Frag} (hK : X.K = K) : CallR X (.type "tuple") (rTupF K) := by
  subst hK
  intro pins s σ H xs us Q I r h
  obtain ⟨p, ys, rfl, hq, q⟩ := h
  obtain ⟨u, rfl, rx⟩ := vals1 r
  cases rx
  obtain ⟨its, r', pl, hz⟩ := I.list hq
  have hlen := r'.length
  refine call_tuple_list pl.isList (fun h' kp => ?_) (by simp only [List.size_toArray] <;> omega)
  have I1 : Inv X pins σ H { s with heap := h' } := I.kept (t' := s.toks) kp
  have I2 : Inv X pins σ (upd H h'.objs.size (.frz { cls := .type "tuple", data := .seq its.toArray } (.tup ys))) { s with heap := h'.push { cls := .type "tuple", data := .seq its.toArray } } :=
    I1.laid (t' := s.toks) (fun b o e => Heap.get?_push_of_some _ e) (Nat.le_refl _) (show ObjOk X.prog X.w _ _ _ (.frz _ (.tup ys)) from ⟨Heap.get?_push_size _ rfl, hz, its, r', IsTup.new _ _⟩)
  exact ⟨.ref h'.objs.size, _, I2, rfl, q _ _ (I1.hok.fresh (Nat.le_refl _)) rfl⟩
/-! ### methods of such a tuple -/
def tBMT (r : V → List V → Hp → VK → Prop) (to : TE) (t : TA) : TE := fun σ H Q => to σ H fun x H1 => Nd H1 x ∧ t σ H1 fun xs H2 => r x xs H2 Q
theorem pe_bmT {X : Cx} {o e : Expr} {es : List Expr} {to : TE} {t : TA} {name : Str} {apos cpos : Pos} {id : String} {r : V → List V → Hp → VK → Prop} (slot : Slot "tuple" name id) (hty : typeOf (.builtin id) = pure (.type "method_descriptor")) (hm : MtR X id r) (ho : PE X o to) (ha : PA X (e :: es) t)
    (hbase : attributeBase o name X.env (eval o X.env) = eval o X.env := by rfl)
    (hfew : ((backTo cpos (starEach (e :: es) X.env)).all (fun x => !x.1) && (backToKw cpos (keywordEach [] X.env)).all (fun x => x.1.isSome)
      && decide ((e :: es).length + ([] : List Keyword).length + (if ([] : List Keyword).isEmpty then 0 else 1) < 30)) = true := by rfl)
    (hline : (apos.endLine == cpos.line) = true := by rfl) (hs : starEach (e :: es) X.env = (false, eval e X.env) :: starEach es X.env := by rfl) (hplain : (backTo cpos (starEach es X.env)).any (·.1) = false := by rfl) :
    PE X (.Call (.Attribute o name apos) (e :: es) [] cpos) (tBMT r to t) := by
  refine ⟨fun pins s σ H Q I h => ?_⟩
  refine wpAny_Call_method_late hbase hfew hline rfl (thn (ho.run pins s σ H _ I h) fun v s1 ⟨x, H1, I1, r1, nd, q1⟩ => ?_)
  obtain ⟨a, ob, xs, rfl, hk, hd⟩ := nd
  cases r1
  obtain ⟨e1, _, its, rv, o2, e2, hc, _⟩ := I1.hok a _ hk
  rw [e1] at e2
  cases e2
  refine ⟨"tuple", id, PySem.F.plainAttrs_tuple, slot, hty, ⟨ob, e1, hc⟩, (fun b hb => by cases hb; exact ⟨ob, e1, hd⟩), ?_⟩
  have hA := ha.run cpos pins s1 σ H1 _ I1 q1
  rw [hs] at hA ⊢
  refine Calls.callWith_builtin (by show (false || (backTo cpos (starEach es X.env)).any (·.1)) = false; rw [hplain] <;> rfl) (Calls.evalArgs_plain ?_)
  exact thn hA fun us s2 ⟨vs, H2, I2, r2, q2⟩ => hm pins s2 σ H2 (.ref a) vs (.ref a) us Q I2 rfl r2 q2
def rIdxT (K : PySem.W.Frag) : V → List V → Hp → VK → Prop := fun x xs H Q => ∃ (p : Addr) (ns : List Int) (k : Int) (j : Nat), x = .ref p ∧ xs = [.int k] ∧ SqT K H p (ns.map V.int) ∧ ns[j]? = some k ∧ (∀ m, m < j → ns[m]? ≠ some k) ∧ Q (.int (j : Nat)) H
theorem mt_tupIdx {X : Cx} {K : PySem.W.Frag} (hK : X.K = K) : MtR X "tuple.index" (rIdxT K) := by
  subst hK
  intro pins s σ H x xs v us Q I rx rxs h
  obtain ⟨p, ns, k, j, rfl, rfl, hq, hj, hno, q⟩ := h
  cases rx
  obtain ⟨u, rfl, ru⟩ := rxs.one
  obtain ⟨t, rfl⟩ := ru
  obtain ⟨its, rv, pl, hz⟩ := I.tuple hq
  obtain ⟨⟨cls, dd, dt, sl⟩, ho, hc, n, hd⟩ := pl
  simp only at hc hd
  subst hc
  subst hd
  have hi : IntsAre its.toArray.toList ns := ints_of_vals rv
  have hl : its.toArray.size = ns.length := by rw [List.size_toArray, ← rv.length, List.length_map]
  have hjl : j < its.toArray.size := by rw [hl]; exact (List.getElem?_eq_some_iff.mp hj).1
  have at' : ∀ (m : Nat) (hm : m < its.toArray.size), ∃ y t', ns[m]? = some y ∧ its.toArray[m] = Value.int y t' := fun m hm => by
    have hm' : m < ns.length := by rw [← hl]; exact hm
    obtain ⟨t', e⟩ := PyProof.Rows.IntsAre.int_at hi m its.toArray[m] (by simp [hm])
    refine ⟨ns[m], t', List.getElem?_eq_getElem hm', ?_⟩
    rw [e, List.getD_eq_getElem?_getD, List.getElem?_eq_getElem hm']
    rfl
  refine call_meets PySem.F.slot_tuple_index ⟨_, ho, rfl⟩ PySem.F.entry_tuple_index (PySem.F.args_tuple_index_2 _ _) (TI.tuple_indexAt p its.toArray n dd sl (.int k t) (eqk k) j hjl ?_ ?_)
    ⟨ho, fun y hy => (eqk_gives hi y (by simpa using hy)).at _ _, ⟨.int (j : Nat), H, I.tok _, ⟨_, rfl⟩, q⟩⟩
  · obtain ⟨y, t', h1, h2⟩ := at' j hjl
    rw [hj] at h1
    cases h1
    rw [h2]
    exact beq_self_eq_true k
  · intro m hm hmj
    obtain ⟨y, t', h1, h2⟩ := at' m hm
    rw [h2]
    exact beq_eq_false_iff_ne.mpr fun e => hno m hmj (e ▸ h1)
def rCntT (K : PySem.W.Frag) : V → List V → Hp → VK → Prop := fun x xs H Q => ∃ (p : Addr) (ns : List Int) (k : Int), x = .ref p ∧ xs = [.int k] ∧ SqT K H p (ns.map V.int) ∧ Q (.int (ns.count k : Nat)) H
theorem mt_tupCnt {X : Cx} {K : PySem.W.Frag} (hK : X.K = K) : MtR X "tuple.count" (rCntT K) := by
  subst hK
  intro pins s σ H x xs v us Q I rx rxs h
  obtain ⟨p, ns, k, rfl, rfl, hq, q⟩ := h
  cases rx
  obtain ⟨u, rfl, ru⟩ := rxs.one
  obtain ⟨t, rfl⟩ := ru
  obtain ⟨its, rv, pl, hz⟩ := I.tuple hq
  obtain ⟨⟨cls, dd, dt, sl⟩, ho, hc, n, hd⟩ := pl
  simp only at hc hd
  subst hc
  subst hd
  have hi : IntsAre its.toArray.toList ns := ints_of_vals rv
  refine call_meets PySem.F.slot_tuple_count ⟨_, ho, rfl⟩ PySem.F.entry_tuple_count (PySem.F.args_tuple_count_2 _ _)
    (SeqAt.tuple_countAt p its.toArray n dd sl (.int k t) (eqk k)) ⟨ho, fun y hy => (eqk_gives hi y (by simpa using hy)).at _ _, ?_⟩
  have ec : its.toArray.toList.countP (eqk k) = ns.count k := eqk_count hi
  refine ⟨.int (ns.count k : Nat), H, I.tok _, ⟨s.toks, ?_⟩, q⟩
  show Value.int ((its.toArray.toList.countP (eqk k) : Nat) : Int) s.toks = Value.int ((ns.count k : Nat) : Int) s.toks
  rw [ec]
section
variable [Tbl] {K : PySem.W.Frag} {σ : L2.St} {H H' H0 : Hp} {ta tb te tl : TE} {v : V} {d : PyData} {ds es : List PyData} {D : Ends} {tu tw tz : TS} {p : Addr} {n : Nat}
/-- te evaluates to such a tuple -/
def EN (te : TE) (σ : L2.St) (H : Hp) (d : PyData) : Prop := ∀ H1, Ex H H1 → ∀ Q : VK, (∀ v H2, Ex H1 H2 → Rp H2 v d → Nd H2 v → Q v H2) → te σ H1 Q
theorem en_tupN (h : EL ta σ H ds) : EN (tCB (rTupF K) (tCons ta tNil)) σ H (.tuple ds) := fun H1 x Q q => h H1 x _ fun p H2 _ x2 hp => by
  obtain ⟨xs, ha, rs⟩ := hp
  refine ⟨p, xs, rfl, SqL.of ha, fun l o hl ho => q _ _ (x2.trans (Ex.new hl)) (.tup (.inr ⟨o, upd_same⟩) (rs.up (Tx.new hl))) ⟨l, o, xs, rfl, upd_same, ho⟩⟩
theorem en_var {k : Nat} (h : σ[k]? = some (some v)) (r : Rp H v d) (n : Nd H v) : EN (tVar k) σ H d := fun H1 x Q q => ⟨v, h, q v H1 (Ex.refl H1) (r.ex x) (n.ex x)⟩
theorem qn_asg {k : Nat} (h : EN te σ H d) (q : ∀ v H1, Ex H H1 → Rp H1 v d → Nd H1 v → tz D (σ.set k (some v)) H1) : tSeq (tAsg te (gName k)) tz D σ H := h H (Ex.refl H) _ q
/-- t.index(x) -/
theorem ed_tindex {ns : List Int} {k : Int} {j : Nat} (ha : EN ta σ H (.tuple (ns.map PyData.int))) (hb : ED tb σ H (.int k)) (hj : ns[j]? = some k) (hno : ∀ m, m < j → ns[m]? ≠ some k) : ED (tBMT (rIdxT K) ta (tCons tb tNil)) σ H (.int (j : Int)) := fun H1 x Q q =>
  ha H1 x _ fun v H2 x2 r nd => ⟨nd, hb H2 (x.trans x2) _ fun w H3 x3 s => by
    obtain ⟨a, xs, rfl, ha', rs⟩ := (r.ex x3).tupE
    rw [rs.intsE] at ha'
    exact ⟨a, ns, k, j, rfl, by rw [s.intE], SqR ha', hj, hno, q _ H3 (x2.trans x3) (.int _)⟩⟩
theorem ed_tcount {ns : List Int} {k : Int} (ha : EN ta σ H (.tuple (ns.map PyData.int))) (hb : ED tb σ H (.int k)) : ED (tBMT (rCntT K) ta (tCons tb tNil)) σ H (.int (ns.count k : Nat)) := fun H1 x Q q =>
  ha H1 x _ fun v H2 x2 r nd => ⟨nd, hb H2 (x.trans x2) _ fun w H3 x3 s => by
    obtain ⟨a, xs, rfl, ha', rs⟩ := (r.ex x3).tupE
    rw [rs.intsE] at ha'
    exact ⟨a, ns, k, rfl, by rw [s.intE], SqR ha', q _ H3 (x2.trans x3) (.int _)⟩⟩
end
end Wi

namespace Wg
/-! ### names under other numbers -/
structure Iso (L L' : Nat → Nat → Int) (n : Nat) (π ρ : Nat → Nat) : Prop where
  lt1 : ∀ a, a < n → π a < n
  lt2 : ∀ a, a < n → ρ a < n
  in1 : ∀ a, a < n → ρ (π a) = a
  in2 : ∀ a, a < n → π (ρ a) = a
  eq : ∀ i j, i < n → j < n → L' i j = L (ρ i) (ρ j)
section
variable {L L' : Nat → Nat → Int} {n : Nat} {π ρ : Nat → Nat} {t : Int} {i j : Nat}
theorem Iso.back (h : Iso L L' n π ρ) : Iso L' L n ρ π := ⟨h.lt2, h.lt1, h.in2, h.in1, fun i j hi hj => by rw [h.eq _ _ (h.lt1 i hi) (h.lt1 j hj), h.in1 i hi, h.in1 j hj]⟩
theorem Iso.rch (h : Iso L L' n π ρ) (r : Rch L' n t i j) (hi : i < n) : Rch L n t (ρ i) (ρ j) := by
  induction r with
  | refl => exact .refl
  | @step b c hb hc hl ih => exact .step ih (h.lt2 c hc) (by rw [← h.eq b c (hb.lt hi) hc]; exact hl)
theorem Iso.rch' (h : Iso L L' n π ρ) (r : Rch L n t (ρ i) (ρ j)) (hi : i < n) (hj : j < n) : Rch L' n t i j := by
  have := h.back.rch r (h.lt2 i hi)
  rw [h.in2 i hi, h.in2 j hj] at this
  exact this
theorem Iso.ne (h : Iso L L' n π ρ) (hi : i < n) (hj : j < n) (e : i ≠ j) : ρ i ≠ ρ j := fun z => e (by rw [← h.in2 i hi, ← h.in2 j hj, z])
theorem Iso.msOf (h : Iso L L' n π ρ) (hi : i < n) (hj : j < n) (e : i ≠ j) : sOf L' n i j = sOf L n (ρ i) (ρ j) := by
  have i1 := sOf_is (L := L') hi hj e
  have i2 := sOf_is (L := L) (h.lt2 i hi) (h.lt2 j hj) (h.ne hi hj e)
  refine IsStr.uniq (a := i) (b := j) (L := L') (n := n) i1 ⟨i2.1, fun t ht => ?_⟩
  rw [i2.2 t ht]
  exact ⟨fun r => h.rch' r hi hj, fun r => h.rch r hi⟩
theorem Iso.mabv (h : Iso L L' n π ρ) (hi : i < n) (hj : j < n) : (i, j) ∈ abv L' n ↔ (ρ i, ρ j) ∈ abv L n := by
  rw [mem_abv, mem_abv]
  constructor
  · rintro ⟨_, _, h3, h4⟩
    have h3 : i ≠ j := h3
    have h4 : Wg.sOf L' n j i < Wg.sOf L' n i j := h4
    refine ⟨h.lt2 i hi, h.lt2 j hj, h.ne hi hj h3, ?_⟩
    rw [h.msOf hi hj h3, h.msOf hj hi (Ne.symm h3)] at h4
    exact h4
  · rintro ⟨_, _, h3, h4⟩
    have h3 : ρ i ≠ ρ j := h3
    have h4 : Wg.sOf L n (ρ j) (ρ i) < Wg.sOf L n (ρ i) (ρ j) := h4
    have e : i ≠ j := fun z => h3 (by rw [z])
    refine ⟨hi, hj, e, ?_⟩
    show Wg.sOf L' n j i < Wg.sOf L' n i j
    rw [h.msOf hi hj e, h.msOf hj hi (Ne.symm e)]
    exact h4
theorem Iso.mfst (h : Iso L L' n π ρ) (hi : i < n) : i ∈ fsts L' n ↔ ρ i ∈ fsts L n := by
  rw [mem_fsts, mem_fsts]
  constructor
  · rintro ⟨_, h2⟩
    refine ⟨h.lt2 i hi, fun a ha => ?_⟩
    have hal := (mem_abv.mp ha).1
    have hal : a < n := hal
    refine h2 (π a) ((h.mabv (h.lt1 a hal) hi).mpr ?_)
    rw [h.in1 a hal]
    exact ha
  · rintro ⟨_, h2⟩
    exact ⟨hi, fun a ha => h2 (ρ a) ((h.mabv (mem_abv.mp ha).1 hi).mp ha)⟩
theorem Iso.dom (h : Iso L L' n π ρ) {S : Nat → Prop} (d : Dom L n S) : Dom L' n (fun x => S (ρ x)) := fun x y hx hy h1 h2 => by
  rw [h.eq x y hx hy]
  exact d (ρ x) (ρ y) (h.lt2 x hx) (h.lt2 y hy) h1 h2
theorem Iso.crw1 (h : Iso L L' n π ρ) (hi : i < n) (m : i ∈ crwOf L' n) : ρ i ∈ crwOf L n :=
  mem_crw.mpr ⟨h.lt2 i hi, fun S hS ⟨s, hs, hs2⟩ => (mem_crw.mp m).2 _ (h.dom hS) ⟨π s, h.lt1 s hs, by rw [h.in1 s hs]; exact hs2⟩⟩
theorem Iso.mcrw (h : Iso L L' n π ρ) (hi : i < n) : i ∈ crwOf L' n ↔ ρ i ∈ crwOf L n := by
  refine ⟨h.crw1 hi, fun m => ?_⟩
  have := h.back.crw1 (h.lt2 i hi) m
  rw [h.in2 i hi] at this
  exact this
theorem Iso.mbst (h : Iso L L' n π ρ) (a1 : ∀ a b, L b a = -L a b) (a2 : ∀ a b, L' b a = -L' a b) : bst L' n = (bst L n).map π := by
  cases e : Wg.bst L n with
  | none =>
    cases e' : Wg.bst L' n with
    | none => rfl
    | some k =>
      obtain ⟨h1, h2⟩ := (bst_some a2).mp e'
      have : Wg.bst L n = some (ρ k) := (bst_some a1).mpr ⟨h.lt2 k h1, fun j hj hne => by
        have := h2 (π j) (h.lt1 j hj) fun z => hne (by rw [← h.in1 j hj, z])
        rw [h.eq _ _ h1 (h.lt1 j hj), h.in1 j hj] at this
        exact this⟩
      rw [e] at this
      cases this
  | some k =>
    obtain ⟨h1, h2⟩ := (bst_some a1).mp e
    refine (bst_some a2).mpr ⟨h.lt1 k h1, fun j hj hne => ?_⟩
    rw [h.eq _ _ (h.lt1 k h1) hj, h.in1 k h1]
    exact h2 (ρ j) (h.lt2 j hj) fun z => hne (by rw [← h.in2 j hj, z])
theorem ltPP_nodup {l : List (Nat × Nat)} (h : l.Pairwise ltPP) : l.Nodup := h.imp fun h => fun z => by
  subst z
  unfold ltPP at h
  omega
theorem abv_sorted : (abv L n).Pairwise ltPP := (pairs_sorted n).filter _
/-- the pairs above, under the other numbers -/
theorem Iso.perm (h : Iso L L' n π ρ) : (abv L' n).Perm ((abv L n).map fun q => (π q.1, π q.2)) := by
  refine (List.perm_ext_iff_of_nodup (ltPP_nodup abv_sorted) ?_).mpr fun q => ?_
  · refine List.pairwise_map.mpr (List.Pairwise.imp_of_mem ?_ (ltPP_nodup (abv_sorted (L := L) (n := n))))
    intro a b ha hb hne z
    have e1 := congrArg Prod.fst z
    have e2 := congrArg Prod.snd z
    obtain ⟨a1, a2, _⟩ := mem_abv.mp ha
    obtain ⟨b1, b2, _⟩ := mem_abv.mp hb
    refine hne (Prod.ext ?_ ?_)
    · have e1 : π a.1 = π b.1 := e1
      rw [← h.in1 _ a1, ← h.in1 _ b1, e1]
    · have e2 : π a.2 = π b.2 := e2
      rw [← h.in1 _ a2, ← h.in1 _ b2, e2]
  · constructor
    · intro hq
      obtain ⟨q1, q2, _⟩ := mem_abv.mp hq
      exact List.mem_map.mpr ⟨(ρ q.1, ρ q.2), (h.mabv q1 q2).mp hq, Prod.ext (h.in2 _ q1) (h.in2 _ q2)⟩
    · intro hq
      obtain ⟨r, hr, rfl⟩ := List.mem_map.mp hq
      obtain ⟨r1, r2, _⟩ := mem_abv.mp hr
      refine (h.mabv (h.lt1 _ r1) (h.lt1 _ r2)).mpr ?_
      rw [h.in1 _ r1, h.in1 _ r2]
      exact hr
/-! ### orders turned about -/
theorem rch_turn (e : ∀ i j, i < n → j < n → L' i j = L j i) (r : Rch L' n t i j) (hi : i < n) : Rch L n t j i := by
  induction r with
  | refl => exact .refl
  | @step b c hb hc hl ih => exact (Rch.one (hb.lt hi) (by rw [← e b c (hb.lt hi) hc]; exact hl)).trans ih
theorem sOf_turn (e : ∀ i j, i < n → j < n → L' i j = L j i) (hi : i < n) (hj : j < n) (hne : i ≠ j) : sOf L' n i j = sOf L n j i := by
  have i1 := sOf_is (L := L') hi hj hne
  have i2 := sOf_is (L := L) hj hi (Ne.symm hne)
  refine IsStr.uniq (a := i) (b := j) (L := L') (n := n) i1 ⟨i2.1, fun t ht => ?_⟩
  rw [i2.2 t ht]
  exact ⟨fun r => rch_turn (fun a b ha hb => (e b a hb ha).symm) r hj, fun r => rch_turn e r hi⟩
theorem abv_turn (e : ∀ i j, i < n → j < n → L' i j = L j i) : (abv L' n).Perm ((abv L n).map fun q => (q.2, q.1)) := by
  have mm : ∀ a b, (a, b) ∈ abv L' n ↔ (b, a) ∈ abv L n := fun a b => by
    rw [mem_abv, mem_abv]
    constructor
    · rintro ⟨h1, h2, h3, h4⟩
      have h1 : a < n := h1
      have h2 : b < n := h2
      have h3 : a ≠ b := h3
      have h4 : Wg.sOf L' n b a < Wg.sOf L' n a b := h4
      rw [sOf_turn e h1 h2 h3, sOf_turn e h2 h1 (Ne.symm h3)] at h4
      exact ⟨h2, h1, Ne.symm h3, h4⟩
    · rintro ⟨h1, h2, h3, h4⟩
      have h1 : b < n := h1
      have h2 : a < n := h2
      have h3 : b ≠ a := h3
      have h4 : Wg.sOf L n a b < Wg.sOf L n b a := h4
      refine ⟨h2, h1, Ne.symm h3, ?_⟩
      show Wg.sOf L' n b a < Wg.sOf L' n a b
      rw [sOf_turn e h2 h1 (Ne.symm h3), sOf_turn e h1 h2 h3]
      exact h4
  refine (List.perm_ext_iff_of_nodup (ltPP_nodup abv_sorted) ?_).mpr fun q => ?_
  · exact List.pairwise_map.mpr ((ltPP_nodup (abv_sorted (L := L) (n := n))).imp fun hne z => hne (Prod.ext (congrArg Prod.snd z) (congrArg Prod.fst z)))
  · constructor
    · intro hq
      exact List.mem_map.mpr ⟨(q.2, q.1), (mm q.1 q.2).mp hq, rfl⟩
    · intro hq
      obtain ⟨r, hr, rfl⟩ := List.mem_map.mp hq
      exact (mm r.2 r.1).mpr hr
end
end Wg

namespace Wm
def trn (bs : List (List Int)) : List (List Int) := bs.map fun b => b.map fun x => 99 - x
def ren (bs : List (List Int)) (n : Nat) (q : List Nat) : List (List Int) := bs.map fun b => (List.range n).map fun m => b.getD (q.idxOf m) 0
theorem lead_map (bs : List (List Int)) (f : List Int → List Int) (i j i' j' : Nat) (h : ∀ b ∈ bs, sgnAt (f b) i j = sgnAt b i' j') : lead (bs.map f) i j = lead bs i' j' := by
  unfold lead
  rw [List.map_map]
  exact congrArg List.sum (List.map_congr_left fun b hb => h b hb)
theorem lead_trn {bs : List (List Int)} {n i j : Nat} (wf : ∀ b ∈ bs, b.length = n) (hi : i < n) (hj : j < n) : lead (trn bs) i j = lead bs j i := lead_map bs _ i j j i fun b hb => by
  have hl := wf b hb
  unfold sgnAt
  rw [List.getD_eq_getElem?_getD, List.getD_eq_getElem?_getD, List.getD_eq_getElem?_getD, List.getD_eq_getElem?_getD, List.getElem?_map, List.getElem?_map, List.getElem?_eq_getElem (by omega), List.getElem?_eq_getElem (by omega)]
  simp only [Option.map_some, Option.getD_some]
  unfold sgn
  simp only [decide_eq_true_eq]
  split <;> split <;> split <;> split <;> omega
theorem lead_ren {bs : List (List Int)} {n i j : Nat} {q : List Nat} (hi : i < n) (hj : j < n) : lead (ren bs n q) i j = lead bs (q.idxOf i) (q.idxOf j) := lead_map bs _ i j _ _ fun b hb => by
  unfold sgnAt
  have g : ∀ m, m < n → ((List.range n).map fun m => b.getD (q.idxOf m) 0).getD m 0 = b.getD (q.idxOf m) 0 := fun m hm => by
    rw [List.getD_eq_getElem?_getD, List.getElem?_map, List.getElem?_range hm]
    rfl
  rw [g i hi, g j hj]
theorem ren_iso {bs : List (List Int)} {n : Nat} {q : List Nat} (hq : q.Perm (List.range n)) : Wg.Iso (lead bs) (lead (ren bs n q)) n (fun a => q.getD a 0) (fun a => q.idxOf a) := by
  have hl : q.length = n := by rw [hq.length_eq, List.length_range]
  have hn : q.Nodup := hq.nodup_iff.mpr List.nodup_range
  have hm : ∀ a, a < n → a ∈ q := fun a ha => hq.mem_iff.mpr (List.mem_range.mpr ha)
  have hg : ∀ a, (h : a < n) → q.getD a 0 = q[a]'(by omega) := fun a h => by
    rw [List.getD_eq_getElem?_getD, List.getElem?_eq_getElem (by omega)]
    rfl
  refine ⟨fun a ha => ?_, fun a ha => ?_, fun a ha => ?_, fun a ha => ?_, fun i j hi hj => lead_ren hi hj⟩
  · show q.getD a 0 < n
    rw [hg a ha]
    exact List.mem_range.mp (hq.mem_iff.mp (List.getElem_mem _))
  · have := List.idxOf_lt_length_of_mem (hm a ha)
    show q.idxOf a < n
    omega
  · show q.idxOf (q.getD a 0) = a
    rw [hg a ha]
    exact hn.idxOf_getElem a (by omega)
  · have h1 := List.idxOf_lt_length_of_mem (hm a ha)
    show q.getD (q.idxOf a) 0 = a
    rw [hg _ (by omega)]
    exact List.getElem_idxOf h1
end Wm
namespace Wi
open PySem PySem.Spec PyProof.Rows L2 Wd Wt Wx Wm Wg Wy Wz Wc Wq Wj
def R_turned (ds : List PyData) (d : PyData) : Prop := ∃ (n : Nat) (bs : List (List Int)), ds = [dBox n bs] ∧ Wf n bs ∧ d = dBox n (trn bs)
def spRen [Tbl] : Sp := fun vs H Q _ => ∃ (n : Nat) (bs : List (List Int)) (q : List Nat) (v0 v1 : V), vs = [v0, v1] ∧ Rp H v0 (dBox n bs) ∧ Rp H v1 (dInts q) ∧ Nd H v1 ∧ Wf n bs ∧ q.Perm (List.range n) ∧ ∀ v H', Ex H H' → Rp H' v (dBox n (ren bs n q)) → Q v H'
def spPerm [Tbl] : Sp := fun vs H Q _ => ∃ (c : Int) (n : Nat), vs = [.int c, .int (n : Int)] ∧ 1 ≤ n ∧ n ≤ 20 ∧ ∀ v H' q, Ex H H' → Rp H' v (dInts q) → Nd H' v → q.Perm (List.range n) → Q v H'
end Wi
namespace Wi
open PySem PySem.Spec PyProof.Rows L2 Wd Wt Wx Wm Wg Wy Wz Wc Wq Wj
section
variable [Tbl] {K : PySem.W.Frag} {σ : L2.St} {H H' H0 : Hp} {ta tb te tl : TE} {v : V} {d : PyData} {ds es : List PyData} {D : Ends} {tu tw tz : TS} {p : Addr} {n : Nat}
theorem qp_perm {t : TA} {E : XK} {k : Nat} {c : Int} (h : EA t σ H [.int c, .int (n : Int)]) (h1 : 1 ≤ n) (h2 : n ≤ 20) (q : ∀ v H1 l, Ex H H1 → Rp H1 v (dInts l) → Nd H1 v → l.Perm (List.range n) → tz D (σ.set k (some v)) H1) : tSeq (tAsg (tCall spPerm [] E t) (gName k)) tz D σ H := h H (Ex.refl H) _ fun vs H2 x r => by
  obtain ⟨v0, v1, rfl, r0, r1⟩ := r.e2
  exact ⟨c, n, by rw [r0.intE, r1.intE]; rfl, h1, h2, fun v H3 l x3 s nd hp => q v H3 l (x.trans x3) s nd hp⟩
theorem ed_ren {E : XK} {bs : List (List Int)} {q : List Nat} (h1 : ED ta σ H (dBox n bs)) (h2 : EN tb σ H (dInts q)) (wf : Wf n bs) (hq : q.Perm (List.range n)) : ED (tCall spRen [] E (tCons ta (tCons tb tNil))) σ H (dBox n (ren bs n q)) := fun H1 x Q k =>
  h1 H1 x _ fun v H2 x2 r => h2 H2 (x.trans x2) _ fun w H3 x3 s nd => ⟨n, bs, q, v, w, rfl, r.ex x3, s, nd, wf, hq, fun v4 H4 x4 r4 => k v4 H4 ((x2.trans x3).trans x4) r4⟩
theorem ed_eqOpt {x : Option Nat} (ha : ED ta σ H (dOpt x)) (hb : ED tb σ H (dOpt x)) : ED (tOp rEq ta tb) σ H (.bool true) := fun H1 y Q q =>
  ha H1 y _ fun v H2 x2 r => hb H2 (y.trans x2) _ fun w H3 x3 s => by
    cases x with
    | none =>
      rw [Rp.nonE r, Rp.nonE s]
      exact ⟨rfl, q _ H3 (x2.trans x3) (.bl _)⟩
    | some k =>
      rw [Rp.intE (i := (k : Int)) r, Rp.intE (i := (k : Int)) s]
      refine ⟨rfl, ?_⟩
      have e : decide (V.int (k : Int) = V.int (k : Int)) = true := decide_eq_true rfl
      rw [e]
      exact q _ H3 (x2.trans x3) (.bl _)
end
theorem trn_wf {n : Nat} {bs : List (List Int)} (h : Wf n bs) : Wf n (trn bs) := ⟨by unfold trn; rw [List.length_map]; exact h.len, h.many, fun b hb => by
  obtain ⟨c, hc, rfl⟩ := List.mem_map.mp hb
  rw [List.length_map]
  exact h.each c hc⟩
theorem ren_wf {n : Nat} {bs : List (List Int)} {q : List Nat} (h : Wf n bs) : Wf n (ren bs n q) := ⟨by unfold ren; rw [List.length_map]; exact h.len, h.many, fun b hb => by
  obtain ⟨c, hc, rfl⟩ := List.mem_map.mp hb
  rw [List.length_map, List.length_range]⟩
end Wi
namespace Wi
open L2 Wd PySem
theorem tupF_of {K : PySem.W.Frag} {te : TE} {σ : L2.St} {H : Hp} {D : Ends} (h : te σ H fun v H' => rTupF K [v] H' D.rt) : tRet (tCB (rTupF K) (tCons te tNil)) D σ H := h
end Wi
/-! Twins: names that stand alike to all others. -/
namespace Wg
/-- N names under n: those that go to unlike ones stand as these do -/
structure Mor (L L0 : Nat → Nat → Int) (N n : Nat) (φ : Nat → Nat) : Prop where
  lt : ∀ a, a < N → φ a < n
  sur : ∀ y, y < n → ∃ a, a < N ∧ φ a = y
  eq : ∀ a b, a < N → b < N → φ a ≠ φ b → L a b = L0 (φ a) (φ b)
section
variable {L L0 : Nat → Nat → Int} {N n : Nat} {φ : Nat → Nat} {t : Int} {a b : Nat}
theorem Mor.down (m : Mor L L0 N n φ) (r : Rch L N t a b) (ha : a < N) : Rch L0 n t (φ a) (φ b) := by
  induction r with
  | refl => exact .refl
  | @step b c hb hc hl ih =>
    by_cases e : φ b = φ c
    · rw [← e]; exact ih
    · exact .step ih (m.lt c hc) (by rw [← m.eq b c (hb.lt ha) hc e]; exact hl)
theorem Mor.up (m : Mor L L0 N n φ) (ha : a < N) {y : Nat} (r : Rch L0 n t (φ a) y) : y = φ a ∨ ∀ b, b < N → φ b = y → Rch L N t a b := by
  induction r with
  | refl => exact .inl rfl
  | @step z y hz hy hl ih =>
    by_cases e : y = φ a
    · exact .inl e
    · refine .inr fun b hb hby => ?_
      rcases ih with rfl | ih
      · exact .one hb (by rw [m.eq a b ha hb (by rw [hby]; exact Ne.symm e), hby]; exact hl)
      · by_cases e2 : z = y
        · exact ih b hb (by rw [hby, e2])
        · obtain ⟨c, hc, hcz⟩ := m.sur z (hz.lt (m.lt a ha))
          exact .step (ih c hc hcz) hb (by rw [m.eq c b hc hb (by rw [hcz, hby]; exact e2), hcz, hby]; exact hl)
theorem Mor.msOf (m : Mor L L0 N n φ) (ha : a < N) (hb : b < N) (e : φ a ≠ φ b) : sOf L N a b = sOf L0 n (φ a) (φ b) := by
  have hne : a ≠ b := fun z => e (by rw [z])
  have i1 := sOf_is (L := L) ha hb hne
  have i2 := sOf_is (L := L0) (m.lt a ha) (m.lt b hb) e
  refine IsStr.uniq (a := a) (b := b) (L := L) (n := N) i1 ⟨i2.1, fun t ht => ?_⟩
  rw [i2.2 t ht]
  exact ⟨fun r => ((m.up ha r).resolve_left (Ne.symm e)) b hb rfl, fun r => m.down r ha⟩
theorem Mor.mabv (m : Mor L L0 N n φ) (ha : a < N) (hb : b < N) (e : φ a ≠ φ b) : (a, b) ∈ abv L N ↔ (φ a, φ b) ∈ abv L0 n := by
  have hne : a ≠ b := fun z => e (by rw [z])
  rw [mem_abv, mem_abv]
  constructor
  · rintro ⟨_, _, _, h4⟩
    have h4 : sOf L N b a < sOf L N a b := h4
    rw [m.msOf ha hb e, m.msOf hb ha (Ne.symm e)] at h4
    exact ⟨m.lt a ha, m.lt b hb, e, h4⟩
  · rintro ⟨_, _, _, h4⟩
    have h4 : sOf L0 n (φ b) (φ a) < sOf L0 n (φ a) (φ b) := h4
    refine ⟨ha, hb, hne, ?_⟩
    show sOf L N b a < sOf L N a b
    rw [m.msOf ha hb e, m.msOf hb ha (Ne.symm e)]
    exact h4
/-- two lists of pairs that rise, of the same pairs -/
theorem pairs_one : ∀ {l m : List (Nat × Nat)}, l.Pairwise ltPP → m.Pairwise ltPP → (∀ q, q ∈ l ↔ q ∈ m) → l = m
  | [], [], _, _, _ => rfl
  | [], b :: m, _, _, h => nomatch (h b).mpr List.mem_cons_self
  | a :: l, [], _, _, h => nomatch (h a).mp List.mem_cons_self
  | a :: l, b :: m, hl, hm, h => by
    obtain ⟨l1, l2⟩ := List.pairwise_cons.mp hl
    obtain ⟨m1, m2⟩ := List.pairwise_cons.mp hm
    have ltirr : ∀ p : Nat × Nat, ¬ ltPP p p := fun p z => by unfold ltPP at z; omega
    have e : a = b := by
      rcases List.mem_cons.mp ((h a).mp List.mem_cons_self) with e | e
      · exact e
      · rcases List.mem_cons.mp ((h b).mpr List.mem_cons_self) with e2 | e2
        · exact e2.symm
        · have h1 := m1 a e
          have h2 := l1 b e2
          unfold ltPP at h1 h2
          omega
    subst e
    rw [pairs_one l2 m2 fun q => ⟨fun hq => ?_, fun hq => ?_⟩]
    · rcases List.mem_cons.mp ((h q).mp (List.mem_cons_of_mem _ hq)) with e | e
      · subst e; exact absurd (l1 q hq) (ltirr q)
      · exact e
    · rcases List.mem_cons.mp ((h q).mpr (List.mem_cons_of_mem _ hq)) with e | e
      · subst e; exact absurd (m1 q hq) (ltirr q)
      · exact e
/-- one number out -/
def dn (g x : Nat) : Nat := if g < x then x - 1 else x
def upn (g x : Nat) : Nat := if x < g then x else x + 1
theorem dn_up {g x : Nat} : dn g (upn g x) = x := by unfold dn upn; split <;> split <;> omega
theorem up_dn {g x : Nat} (h : x ≠ g) : upn g (dn g x) = x := by unfold dn upn; split <;> split <;> omega
theorem up_ne {g x : Nat} : upn g x ≠ g := by unfold upn; split <;> omega
theorem dn_mono {g x y : Nat} (hx : x ≠ g) (hy : y ≠ g) (h : x < y) : dn g x < dn g y := by unfold dn; split <;> split <;> omega
/-- a name's twins: name, and those from n on -/
def Tw (n name x : Nat) : Prop := x = name ∨ n ≤ x
def ph (n name x : Nat) : Nat := if n ≤ x then name else x
theorem ph_tw {n name x : Nat} (h : name < n) : ph n name x = name ↔ Tw n name x := by
  unfold ph Tw
  split <;> omega
theorem ph_ne {n name a b : Nat} (h : name < n) (k : ¬ (Tw n name a ∧ Tw n name b)) (hne : a ≠ b) : ph n name a ≠ ph n name b := by
  unfold ph Tw at *
  split <;> split <;> omega
/-- the pairs left, with one twin gone -/
theorem twins_out {Lm Lw L0 : Nat → Nat → Int} {n N name g : Nat} (hname : name < n) (hnN : n < N) (hg : g < N) (hgt : Tw n name g) (m : Mor Lm L0 N n (ph n name)) (hw : ∀ i j, i < N - 1 → j < N - 1 → Lw i j = Lm (upn g i) (upn g j)) :
    ∀ a b, a < N → b < N → a ≠ g → b ≠ g → a ≠ b → ¬ (Tw n name a ∧ Tw n name b) → ((dn g a, dn g b) ∈ abv Lw (N - 1) ↔ (a, b) ∈ abv Lm N) := by
  have upl : ∀ i, i < N - 1 → upn g i < N := fun i hi => by unfold upn; split <;> omega
  have mw : Mor Lw L0 (N - 1) n (fun i => ph n name (upn g i)) := by
    refine ⟨fun i hi => m.lt _ (upl i hi), fun y hy => ?_, fun i j hi hj e => ?_⟩
    · by_cases hyn : y = name
      · -- another twin
        by_cases hgn : g = name
        · refine ⟨dn g n, ?_, ?_⟩
          · unfold dn; split <;> omega
          · rw [up_dn (by omega)]
            unfold ph
            rw [if_pos (Nat.le_refl _)]
            exact hyn.symm
        · refine ⟨dn g name, ?_, ?_⟩
          · unfold dn; split <;> omega
          · rw [up_dn (Ne.symm hgn)]
            unfold ph
            rw [if_neg (by omega)]
            exact hyn.symm
      · have hyg : y ≠ g := fun z => by
          unfold Tw at hgt
          omega
        refine ⟨dn g y, ?_, ?_⟩
        · unfold dn; split <;> omega
        · rw [up_dn hyg]
          unfold ph
          rw [if_neg (by omega)]
    · rw [hw i j hi hj]
      exact m.eq _ _ (upl i hi) (upl j hj) e
  intro a b ha hb hag hbg hab hnt
  have hne := ph_ne hname hnt hab
  have hda : dn g a < N - 1 := by unfold dn; split <;> omega
  have hdb : dn g b < N - 1 := by unfold dn; split <;> omega
  rw [m.mabv ha hb hne]
  have h := mw.mabv hda hdb (by rw [up_dn hag, up_dn hbg]; exact hne)
  rw [up_dn hag, up_dn hbg] at h
  exact h
end
end Wg
namespace Wm
/-- a name gone -/
def wto (bs : List (List Int)) (g : Nat) : List (List Int) := bs.map fun b => b.take g ++ b.drop (g + 1)
theorem wto_get {b : List Int} {g i : Nat} (h : g < b.length) : (b.take g ++ b.drop (g + 1)).getD i 0 = b.getD (Wg.upn g i) 0 := by
  have hl : (b.take g).length = g := by rw [List.length_take]; omega
  rw [List.getD_eq_getElem?_getD, List.getD_eq_getElem?_getD, List.getElem?_append, hl]
  unfold Wg.upn
  by_cases c : i < g
  · rw [if_pos c, if_pos c, List.getElem?_take, if_pos c]
  · rw [if_neg c, if_neg c, List.getElem?_drop, show g + 1 + (i - g) = i + 1 by omega]
theorem lead_wto {bs : List (List Int)} {n g i j : Nat} (wf : ∀ b ∈ bs, b.length = n) (hg : g < n) : lead (wto bs g) i j = lead bs (Wg.upn g i) (Wg.upn g j) := lead_map bs _ i j _ _ fun b hb => by
  have := wf b hb
  unfold sgnAt
  rw [wto_get (by omega), wto_get (by omega)]
theorem wto_wf {bs : List (List Int)} {n g : Nat} (h : Wf n bs) (hg : g < n) : Wf (n - 1) (wto bs g) := ⟨by unfold wto; rw [List.length_map]; exact h.len, by have := h.many; omega, fun b hb => by
  obtain ⟨c, hc, rfl⟩ := List.mem_map.mp hb
  have := h.each c hc
  rw [List.length_append, List.length_take, List.length_drop]
  omega⟩
open PySem in
def R_without (ds : List PyData) (d : PyData) : Prop := ∃ (n : Nat) (bs : List (List Int)) (g : Nat), ds = [dBox n bs, .int (g : Int)] ∧ Wf n bs ∧ g < n ∧ d = dBox (n - 1) (wto bs g)
end Wm
/-! Things of any kind (lists too): what is a number, a ballot, a box. -/
namespace W1
open PySem PySem.Spec PyProof.Rows L2 Wd Wt Wx Wm Wg Wy Wz Wc Wq Wj Wi
mutual
inductive Th (H : Hp) : V → PyData → Prop
  | non : Th H .non .none
  | bl (b : Bool) : Th H (.bl b) (.bool b)
  | int (i : Int) : Th H (.int i) (.int i)
  | str (x : Str) : Th H (.str x) (.str x)
  | tup {a : Addr} {xs : List V} {ds : List PyData} : Rd H a (.tup xs) → ThA H xs ds → Th H (.ref a) (.tuple ds)
  | lst {a : Addr} {xs : List V} {ds : List PyData} : H a = some (.lst xs) → ThA H xs ds → Th H (.ref a) (.list ds)
inductive ThA (H : Hp) : List V → List PyData → Prop
  | nil : ThA H [] []
  | cons {v : V} {vs : List V} {d : PyData} {ds : List PyData} : Th H v d → ThA H vs ds → ThA H (v :: vs) (d :: ds)
end
section
variable [Tbl]
mutual
theorem Th.exD {H H' : Hp} (e : Ex H H') : ∀ (d : PyData) (v : V), Th H v d → Th H' v d
  | .none, _, h => by cases h; exact .non
  | .bool b, _, h => by cases h; exact .bl b
  | .int i, _, h => by cases h; exact .int i
  | .str x, _, h => by cases h; exact .str x
  | .tuple ds, _, h => by
    cases h with
    | tup h1 h2 => exact .tup (e.rd h1) (ThA.exD e ds _ h2)
  | .list ds, _, h => by
    cases h with
    | lst h1 h2 => exact .lst (e.at h1) (ThA.exD e ds _ h2)
  | .dict ds, _, h => by cases h
theorem ThA.exD {H H' : Hp} (e : Ex H H') : ∀ (ds : List PyData) (vs : List V), ThA H vs ds → ThA H' vs ds
  | [], _, h => by cases h; exact .nil
  | d :: ds, _, h => by
    cases h with
    | cons h1 h2 => exact .cons (Th.exD e d _ h1) (ThA.exD e ds _ h2)
end
theorem Th.ex {H H' : Hp} {v : V} {d : PyData} (h : Th H v d) (e : Ex H H') : Th H' v d := Th.exD e d v h
theorem ThA.ex {H H' : Hp} {vs : List V} {ds : List PyData} (h : ThA H vs ds) (e : Ex H H') : ThA H' vs ds := ThA.exD e ds vs h
end
mutual
theorem Th.ofR {H : Hp} : ∀ (d : PyData) (v : V), Rp H v d → Th H v d
  | .none, _, h => by cases h; exact .non
  | .bool b, _, h => by cases h; exact .bl b
  | .int i, _, h => by cases h; exact .int i
  | .str x, _, h => by cases h; exact .str x
  | .tuple ds, _, h => by
    cases h with
    | tup h1 h2 => exact .tup h1 (ThA.ofR ds _ h2)
  | .list ds, _, h => by cases h
  | .dict ds, _, h => by cases h
theorem ThA.ofR {H : Hp} : ∀ (ds : List PyData) (vs : List V), RpA H vs ds → ThA H vs ds
  | [], _, h => by cases h; exact .nil
  | d :: ds, _, h => by
    cases h with
    | cons h1 h2 => exact .cons (Th.ofR d _ h1) (ThA.ofR ds _ h2)
end
theorem Th.of {H : Hp} {d : PyData} {v : V} (h : Rp H v d) : Th H v d := Th.ofR d v h
theorem ThA.of {H : Hp} {ds : List PyData} {vs : List V} (h : RpA H vs ds) : ThA H vs ds := ThA.ofR ds vs h
theorem ThA.len {H : Hp} : ∀ {ds : List PyData} {vs : List V}, ThA H vs ds → vs.length = ds.length
  | [], _, h => by cases h; rfl
  | d :: ds, _, h => by
    cases h with
    | cons h1 h2 => simp [ThA.len h2]
theorem ThA.get {H : Hp} : ∀ {ds : List PyData} {vs : List V} {i : Nat} {d : PyData}, ThA H vs ds → ds[i]? = some d → ∃ v, vs[i]? = some v ∧ Th H v d
  | [], _, _, _, _, e => by simp at e
  | d :: ds, _, i, d', h, e => by
    cases h with
    | cons h1 h2 =>
      cases i with
      | zero => simp at e; subst e; exact ⟨_, rfl, h1⟩
      | succ i => exact ThA.get (i := i) h2 (by simpa using e)
theorem ThA.getV {H : Hp} : ∀ {ds : List PyData} {vs : List V} {i : Nat} {v : V}, ThA H vs ds → vs[i]? = some v → ∃ d, ds[i]? = some d ∧ Th H v d
  | [], _, _, _, h, e => by cases h; simp at e
  | d :: ds, _, i, v, h, e => by
    cases h with
    | cons h1 h2 =>
      cases i with
      | zero => simp at e; subst e; exact ⟨_, rfl, h1⟩
      | succ i => exact ThA.getV (i := i) h2 (by simpa using e)
theorem Th.intE {H : Hp} {v : V} {i : Int} (h : Th H v (.int i)) : v = .int i := by cases h; rfl
theorem Th.tupE {H : Hp} {v : V} {ds : List PyData} (h : Th H v (.tuple ds)) : ∃ a xs, v = .ref a ∧ Rd H a (.tup xs) ∧ ThA H xs ds := by
  cases h with
  | tup h1 h2 => exact ⟨_, _, rfl, h1, h2⟩
theorem ThA.e2 {H : Hp} {vs : List V} {d1 d2 : PyData} (h : ThA H vs [d1, d2]) : ∃ v1 v2, vs = [v1, v2] ∧ Th H v1 d1 ∧ Th H v2 d2 := by
  cases h with
  | cons h1 h2 =>
    cases h2 with
    | cons h2 h3 =>
      cases h3
      exact ⟨_, _, rfl, h1, h2⟩
theorem Th.ty {K : PySem.W.Frag} {H : Hp} {d : PyData} {v : V} (h : Th H v d) : TyX K H v (.type (tyD d)) := by
  cases h with
  | non => exact .base .non
  | bl b => exact .base (.bl b)
  | int i => exact .base (.int i)
  | str x => exact .base (.str x)
  | tup h1 _ => exact h1.elim (fun h => .base (.tup h)) fun ⟨_, h⟩ => .fTuple h
  | lst h1 _ => exact .base (.lst h1)
/-- what evaluates to such a thing -/
def ET [Tbl] (te : TE) (σ : L2.St) (H : Hp) (d : PyData) : Prop := ∀ H1, Ex H H1 → ∀ Q : VK, (∀ v H2, Ex H1 H2 → Th H2 v d → Q v H2) → te σ H1 Q
def ETA [Tbl] (ta : TA) (σ : L2.St) (H : Hp) (ds : List PyData) : Prop := ∀ H1, Ex H H1 → ∀ Q : List V → Hp → Prop, (∀ vs H2, Ex H1 H2 → ThA H2 vs ds → Q vs H2) → ta σ H1 Q
section
variable [Tbl] {K : PySem.W.Frag} {σ : L2.St} {H H' H0 : Hp} {ta tb te tl tx : TE} {t : TT} {v : V} {d d1 d2 : PyData} {ds es : List PyData} {D : Ends} {tu tw tz : TS} {p : Addr} {n : Nat} {i j : Int}
theorem th_ed (h : ED te σ H d) : ET te σ H d := fun H1 x Q q => h H1 x Q fun v H2 x2 r => q v H2 x2 (.of r)
theorem th_el (h : EL te σ H ds) : ET te σ H (.list ds) := fun H1 x Q q => h H1 x Q fun p H2 _ x2 r => by
  obtain ⟨vs, h1, h2⟩ := r
  exact q _ H2 x2 (.lst h1 (.of h2))
theorem th_var {k : Nat} (h : σ[k]? = some (some v)) (r : Th H v d) : ET (tVar k) σ H d := fun H1 x Q q => ⟨v, h, q v H1 (Ex.refl H1) (r.ex x)⟩
theorem th_nil : ETA tNil σ H [] := fun H1 _ _ q => q [] H1 (Ex.refl H1) .nil
theorem th_cons {tr : TA} (h : ET ta σ H d) (hr : ETA tr σ H ds) : ETA (tCons ta tr) σ H (d :: ds) := fun H1 x _ q =>
  h H1 x _ fun v H2 x2 r => hr H2 (x.trans x2) _ fun vs H3 x3 rs => q (v :: vs) H3 (x2.trans x3) (.cons (r.ex x3) rs)
theorem th_tup {ta : TA} (h : ETA ta σ H ds) (hl : ds.length ≤ 100000) : ET (tTup ta) σ H (.tuple ds) := fun H1 x _ q =>
  h H1 x _ fun vs H2 x2 r => ⟨sz_of (by rw [r.len]; exact hl), fun p hp => q _ _ (x2.trans (Ex.new hp)) (.tup (.inl upd_same) (r.ex (Ex.new hp)))⟩
theorem th_lst {ta : TA} (h : ETA ta σ H ds) (hl : ds.length ≤ 100000) : ET (tLst ta) σ H (.list ds) := fun H1 x _ q =>
  h H1 x _ fun vs H2 x2 r => ⟨sz_of (by rw [r.len]; exact hl), fun p hp => q _ _ (x2.trans (Ex.new hp)) (.lst upd_same (r.ex (Ex.new hp)))⟩
theorem ed_thI (h : ET te σ H (.int i)) : ED te σ H (.int i) := fun H1 x Q q => h H1 x Q fun v H2 x2 r => q v H2 x2 (by rw [r.intE]; exact .int i)
theorem th_isi {T : String} {b : Bool} (ha : ET ta σ H d) (hk : kitB (tyD d) T = some b) : ED (tCB (rIsi K) (tCons ta (tCons (tC (.ty T)) tNil))) σ H (.bool b) := fun H1 x Q q =>
  ha H1 x _ fun v H2 x2 r => ⟨v, .ty T, _, _, b, rfl, .ty T, r.ty, kit_ty hk, q _ H2 x2 (.bl b)⟩
theorem th_len (h : ET ta σ H (.tuple ds)) : ED (tCB (Wd.rLen K) (tCons ta tNil)) σ H (.int (ds.length : Int)) := fun H1 x Q q =>
  h H1 x _ fun v H2 x2 r => by
    obtain ⟨a, xs, rfl, ha, rs⟩ := r.tupE
    exact ⟨a, xs, rfl, .inr (SqR ha), q _ H2 x2 (by rw [rs.len]; exact .int _)⟩
theorem th_ix {k : Nat} (ha : ET ta σ H (.tuple ds)) (hb : ED tb σ H (.int (k : Int))) (hk : ds[k]? = some d) : ET (tOp (rIxT K) ta tb) σ H d := fun H1 x _ q =>
  ha H1 x _ fun v H2 x2 r => hb H2 (x.trans x2) _ fun w H3 x3 s => by
    obtain ⟨a, xs, rfl, ha', rs⟩ := (r.ex x3).tupE
    obtain ⟨y, hy, ry⟩ := rs.get hk
    exact ⟨a, xs, (k : Int), y, rfl, s.intE, SqR ha', atI_nat hy, q y H3 (x2.trans x3) ry⟩
/-- a, b = e -/
theorem qt_asgP {a b : Nat} (h : ET te σ H (.tuple [d1, d2])) (q : ∀ y z H1, Ex H H1 → Th H1 y d1 → Th H1 z d2 → tz D ((σ.set a (some y)).set b (some z)) H1) : tSeq (tAsg te (gTup K 2 (gCons (gName a) (gCons (gName b) gNil)))) tz D σ H := h H (Ex.refl H) _ fun v H1 x r => by
  obtain ⟨p, xs, rfl, hp, rs⟩ := r.tupE
  obtain ⟨y, z, rfl, r1, r2⟩ := rs.e2
  exact ⟨p, [y, z], rfl, SqR hp, rfl, y, [z], rfl, z, [], rfl, rfl, q y z H1 x r1 r2⟩
theorem qt_asg {k : Nat} (h : ET te σ H d) (q : ∀ v H1, Ex H H1 → Th H1 v d → tz D (σ.set k (some v)) H1) : tSeq (tAsg te (gName k)) tz D σ H := h H (Ex.refl H) _ q
/-- [f(x) for x in a tuple of things] -/
theorem el_lcTh {j : Nat} {vs : List Nat} (f : PyData → PyData) (hl : ET tl σ H (.tuple ds)) (hz : ds.length ≤ 40000) (hw : ∀ x, wipe ((wipe σ vs).set j (some x)) vs = wipe σ vs)
    (hg : ∀ (x : V) (d : PyData) H1, Ex H H1 → d ∈ ds → Th H1 x d → ED te ((wipe σ vs).set j (some x)) H1 (f d)) :
    EL (tLc (iTup K tl) (gName j) tYes te vs) σ H (ds.map f) := fun H0 x0 Q q => hl H0 x0 _ fun v H1 x1 r => by
  obtain ⟨a, xs, rfl, ha, rs⟩ := r.tupE
  refine ⟨a, rfl, ⟨xs, SqR ha⟩, fun Dl hD => ?_⟩
  refine lc_tup (xs := xs) (fun i H' => Cwd H1 Dl ((ds.take i).map f) H') ⟨.of hD, Ex.new hD, [], upd_same, .nil⟩ (fun i H' _ c => SqR (c.2.1.rd ha)) (fun i x H' hi c => ?_) (fun H' c => ?_)
  · obtain ⟨d, hd, rd⟩ := rs.getV hi
    refine ⟨hw _, ?_⟩
    have hlen : ((ds.take i).map f).length < 100000 := by
      rw [List.length_map, List.length_take]
      omega
    refine cwd_turn (es := (ds.take i).map f) (p := true) (y := f d) c hlen et_yes (fun _ => hg x d H1 (x0.trans x1) (List.mem_of_getElem? hd) rd) (fun _ H2 c2 => ?_) (fun h => by cases h)
    rw [List.take_add_one, hd, List.map_append]
    exact c2
  · have e : (ds.take xs.length) = ds := by rw [rs.len]; exact List.take_length
    rw [e] at c
    exact q Dl H' (fresh_back x1 c.1) (x1.trans c.2.1) c.2.2
/-- x is b, x is not b, of truths -/
theorem ed_isBl {a b : Bool} (ha : ED ta σ H (.bool a)) (hb : ED tb σ H (.bool b)) : ED (tOp rIsB ta tb) σ H (.bool (decide (a = b))) := fun H1 x Q q =>
  ha H1 x _ fun v H2 x2 r => hb H2 (x.trans x2) _ fun w H3 x3 s => ⟨a, b, r.blE, s.blE, q _ H3 (x2.trans x3) (.bl _)⟩
theorem ed_notBl {a b : Bool} (ha : ED ta σ H (.bool a)) (hb : ED tb σ H (.bool b)) : ED (tOp rNotB ta tb) σ H (.bool (!decide (a = b))) := fun H1 x Q q =>
  ha H1 x _ fun v H2 x2 r => hb H2 (x.trans x2) _ fun w H3 x3 s => ⟨a, b, r.blE, s.blE, q _ H3 (x2.trans x3) (.bl _)⟩
/-! ### the promises -/
def numB (m : Int) : PyData → Bool
  | .int i => decide (0 ≤ i) && decide (i ≤ m)
  | _ => false
def balB (m : Int) : PyData → Bool
  | .tuple ds => decide ((ds.length : Int) = m) && ds.all (numB 99)
  | _ => false
def boxB : PyData → Bool
  | .tuple [.int n, .tuple bs] => (decide (1 ≤ n) && decide (n ≤ 7)) && (decide (bs.length ≤ 40) && bs.all (balB n))
  | _ => false
def spNum : Sp := fun vs H Q _ => ∃ (v : V) (d : PyData) (m : Int), vs = [v, .int m] ∧ Th H v d ∧ ∀ H', Ex H H' → Q (.bl (numB m d)) H'
def spBal : Sp := fun vs H Q _ => ∃ (v : V) (d : PyData) (m : Int), vs = [v, .int m] ∧ Th H v d ∧ m ≤ 1000 ∧ ∀ H', Ex H H' → Q (.bl (balB m d)) H'
def spIsBox : Sp := fun vs H Q _ => ∃ (v : V) (d : PyData), vs = [v] ∧ Th H v d ∧ ∀ H', Ex H H' → Q (.bl (boxB d)) H'
theorem ed_num {E : XK} {m : Int} (h1 : ET ta σ H d) (h2 : ED tb σ H (.int m)) : ED (tCall spNum [] E (tCons ta (tCons tb tNil))) σ H (.bool (numB m d)) := fun H1 x Q q =>
  h1 H1 x _ fun v H2 x2 r => h2 H2 (x.trans x2) _ fun w H3 x3 s => ⟨v, d, m, by rw [s.intE]; rfl, r.ex x3, fun H4 x4 => q _ H4 ((x2.trans x3).trans x4) (.bl _)⟩
theorem ed_bal {E : XK} {m : Int} (h1 : ET ta σ H d) (h2 : ED tb σ H (.int m)) (hm : m ≤ 1000) : ED (tCall spBal [] E (tCons ta (tCons tb tNil))) σ H (.bool (balB m d)) := fun H1 x Q q =>
  h1 H1 x _ fun v H2 x2 r => h2 H2 (x.trans x2) _ fun w H3 x3 s => ⟨v, d, m, by rw [s.intE]; rfl, r.ex x3, hm, fun H4 x4 => q _ H4 ((x2.trans x3).trans x4) (.bl _)⟩
theorem ed_isbox {E : XK} (h1 : ET ta σ H d) : ED (tCall spIsBox [] E (tCons ta tNil)) σ H (.bool (boxB d)) := fun H1 x Q q =>
  h1 H1 x _ fun v H2 x2 r => ⟨v, d, rfl, r, fun H4 x4 => q _ H4 (x2.trans x4) (.bl _)⟩
end
theorem num_pl {b : List Int} (h : Pl b) : (b.map PyData.int).all (numB 99) = true := by
  rw [List.all_eq_true]
  intro d hd
  obtain ⟨i, hi, rfl⟩ := List.mem_map.mp hd
  have := h i hi
  show (decide (0 ≤ i) && decide (i ≤ 99)) = true
  rw [decide_eq_true this.1, decide_eq_true this.2]
  rfl
theorem bal_pl {b : List Int} {n : Nat} (h : Pl b) (hl : b.length = n) : balB (n : Int) (dB b) = true := by
  show (decide (((b.map PyData.int).length : Int) = (n : Int)) && (b.map PyData.int).all (numB 99)) = true
  rw [num_pl h, List.length_map, decide_eq_true (show (b.length : Int) = (n : Int) by omega)]
  rfl
theorem box_pl {n : Nat} {bs : List (List Int)} (h1 : 1 ≤ n) (h7 : n ≤ 7) (hl : bs.length ≤ 40) (h : ∀ b ∈ bs, b.length = n ∧ Pl b) : boxB (dBox n bs) = true := by
  show ((decide ((1 : Int) ≤ (n : Int)) && decide ((n : Int) ≤ 7)) && (decide ((bs.map dB).length ≤ 40) && (bs.map dB).all (balB (n : Int)))) = true
  rw [List.length_map, decide_eq_true (show (1 : Int) ≤ (n : Int) by omega), decide_eq_true (show (n : Int) ≤ 7 by omega), decide_eq_true hl]
  simp only [Bool.true_and]
  rw [List.all_eq_true]
  intro d hd
  obtain ⟨b, hb, rfl⟩ := List.mem_map.mp hd
  exact bal_pl (h b hb).2 (h b hb).1
end W1
/-! Errors of the program's own; powers of great numbers; lists of lists made by a comprehension. -/
namespace W7
open PySem PySem.Spec PyProof.Rows L2 Wd Wt Wx Wm Wg Wy Wz Wc Wq Wj Wi
def CPowW (i j : Int) : Prop := 0 ≤ j ∧ (Builtin.Int.intBits i : Int) * j ≤ 2 ^ 27
theorem op_powW {X : Cx} : OpR X (binaryOp .Pow) (rI CPowW fun i j => .int (i ^ j.toNat)) := opI fun _ _ _ _ _ _ _ hc q => PyProof.Rows.pow_int hc.1 hc.2 q
/-- what is known of the errors' classes: W the upper one, N the lower -/
structure NB (K : PySem.W.Frag) (mg : Str → Option Value) (W N : Addr) : Prop where
  gW : mg "WishError" = some (.ref W)
  gN : mg "NoBallot" = some (.ref N)
  vE : mg "ValueError" = none
  x : PySem.W.excIn K N [.type "ValueError", .type "Exception", .type "BaseException", .type "object"] "ValueError.__new__" = true
  k : PySem.W.keepIn K (.ref N) = true
  b : PySem.W.subIn K (.ref N) (.type "BaseException") = some true
  t : PySem.W.typeIn K (.ref N) = some (.type "type")
  c : ExcC K N
  e : PySem.W.exmOne K (.ref N) (.ref W) = some true
  i1 : PySem.W.kitOne K (.ref N) (.ref N) = some true
  i2 : PySem.W.kitOne K (.ref N) (.type "ValueError") = some true
/-- a def that may raise -/
structure CalX (P : Program) (w : World) (K : PySem.W.Frag) (mg : Str → Option Value) (base : Heap) (k : Nat) (x : Str) (sp : Sp) : Prop where
  ex : ∃ (f : Addr) (fd : FuncData) (ps : List Str), FnOk P w K mg base (L2.CX P w) k f fd ps sp ∧ mg x = some (.ref f) ∧ PySem.W.keepIn K (.ref f) = true ∧ Binds K fd ps []
section
variable {X : Cx} {k j : Nat} {x : Str} {sp : Sp} {p pos : Pos} {e : Expr} {es : List Expr} {t : TA} {W : WX}
theorem pe_cX (c : CalX X.prog X.w X.K X.mg X.base k x sp) (tk : Takes X W) (hr : Room j X.A) (hk : k ≤ j) (hg : Gl X x) (ha : PA X (e :: es) t)
    (hdb : (x == ("__debug__" : Str)) = false := by decide) (he : starEach (e :: es) X.env = (false, eval e X.env) :: starEach es X.env := by rfl) (hpl : (backTo pos (starEach es X.env)).any (·.1) = false := by rfl) :
    PE X (.Call (.Name x p) (e :: es) [] pos) (tCallS sp (WE W) t) := by
  obtain ⟨f, fd, ps, F, hm, kp, b⟩ := c.ex
  exact pe_callS F (hr.mono hk) hg hm kp b (fun σ => passAt tk σ) ha hdb he hpl
end
section
variable {P : Program} {w : World} {K : PySem.W.Frag} {mg : Str → Option Value} {base : Heap}
theorem calX_ok {x : Str} {st : Stmt} {N ps : List Str} {k : Nat} {sp : Sp} (F : DefAt K mg x st ps) (S : FnScope N ps (defScope st)) (len : ∀ vs H Q E, sp vs H Q E → vs.length = ps.length)
    (hbody : ∀ (f : Addr) (cdv : Value) (A : Around) (outer : List Env) (s : Shared) (H : Hp) (vs : List V) (Q : VK) (E : XK), Room k (A.deeper (envOfC x (defScope st) s.heap.objs.size f cdv)) → sp vs H Q E →
      ∃ t, PSs (cxOf (L2.CX P w) P w K mg base N x (defScope st) f cdv A outer s H E) (defBody st) t ∧ t { nx := fun _ H' => Q .non H', rt := Q } (start N vs) H) : CalX P w K mg base (k + 1) x sp := by
  obtain ⟨f, fd, G, hm, b⟩ := F.ex
  exact ⟨f, fd, ps, G.okX S len fun cdv A outer s H vs Q E hr h => hbody f cdv A outer s H vs Q E hr h, hm, G.kp, b⟩
end
/-- isinstance(e, T), e the error that the suite holds -/
def rIsX (K : PySem.W.Frag) (D a : Addr) (cls : Value) (d : Option Addr) : List V → Hp → VK → Prop := fun xs H Q => cls = .ref D ∧ d = none ∧ rIsE K D a xs H Q
theorem isXK {X : Cx} {K : PySem.W.Frag} {a D : Addr} {oe : Obj} {cls : Value} {d : Option Addr} {pn : List (Addr × Obj)} (hK : X.K = K) (C : ExcC K D) (hz : Zc cls d oe) (hf : ∃ vs, oe.data = .fields vs) : CallR (X.suite a ((a, oe) :: pn)) (.builtin "isinstance") (rIsX K D a cls d) := by
  subst hK
  intro pins s σ H xs us Q I r h
  obtain ⟨rfl, rfl, h⟩ := h
  exact call_isE C hz hf pins s σ H xs us Q I r h
section
variable [Tbl] {K : PySem.W.Frag} {σ : L2.St} {H H' H0 : Hp} {ta tb te tl tx : TE} {t : TT} {v : V} {d d1 d2 : PyData} {ds es : List PyData} {D : Ends} {tu tw tz : TS} {p : Addr} {n : Nat} {i j : Int}
theorem ed_isX {a N : Addr} {cls : Value} {dd : Option Addr} {c : V} {cv : Value} (h : Ev ta σ H (.ref a)) (hb : tb = tC c) (hc : cls = .ref N) (hd : dd = none) (hr : ∀ u, RelV c u → u = cv) (hk : PySem.W.kitOne K (.ref N) cv = some true) : ED (tCB (rIsX K N a cls dd) (tCons ta (tCons tb tNil))) σ H (.bool true) := fun H1 x Q q =>
  h H1 x _ fun H2 x2 => by
    subst hb
    exact ⟨hc, hd, c, cv, true, rfl, hr, hk, q _ H2 x2 (.bl true)⟩
/-- a list of lists, made by a comprehension -/
def EM (te : TE) (σ : L2.St) (H : Hp) (m n : Nat) (M : Nat → Nat → Int) : Prop := ∀ H1, Ex H H1 → ∀ Q : VK, (∀ p H2, Nw H1 p → Ex H1 H2 → MAt H1 H2 p m n M → Q (.ref p) H2) → te σ H1 Q
theorem row_lat {q : Addr} {f : Nat → Int} (h : LAt H q ((List.range n).map fun j => PyData.int (f j))) : H q = some (.lst ((List.range n).map fun j => V.int (f j))) := by
  obtain ⟨vs, h1, rs⟩ := h
  have e1 : ((List.range n).map fun j => PyData.int (f j)) = ((List.range n).map f).map PyData.int := by rw [List.map_map]; rfl
  rw [e1] at rs
  rw [h1, rs.intsE, List.map_map]
  rfl
theorem lat_row {q : Addr} {f : Nat → Int} (h : H q = some (.lst ((List.range n).map fun j => V.int (f j)))) : LAt H q ((List.range n).map fun j => PyData.int (f j)) := by
  refine ⟨_, h, ?_⟩
  have e1 : ((List.range n).map fun j => PyData.int (f j)) = ((List.range n).map f).map PyData.int := by rw [List.map_map]; rfl
  have e2 : ((List.range n).map fun j => V.int (f j)) = ((List.range n).map f).map V.int := by rw [List.map_map]; rfl
  rw [e1, e2]
  exact RpA.ints _
/-- one list more -/
theorem mat_add {H1 H2 : Hp} {Dl q : Addr} {m : Nat} {M : Nat → Nat → Int} (x2 : Ex H' H2) (c1 : Nw H1 Dl) (c2 : Ex H1 H') (c3 : MAt H1 H' Dl m n M) (hq : Nw H' q) (hL : LAt H2 q ((List.range n).map fun j => PyData.int (M m j))) (hz : m < 100000) :
    ∃ acc, H2 Dl = some (.lst acc) ∧ acc.length < sizeLine ∧ (Nw H1 Dl ∧ Ex H1 (upd H2 Dl (.lst (acc ++ [.ref q]))) ∧ MAt H1 (upd H2 Dl (.lst (acc ++ [.ref q]))) Dl (m + 1) n M) := by
  obtain ⟨ps, h1, h2, h3, h4, h5, h6⟩ := c3
  have nqp : q ≠ Dl := (hq.ne h1).symm
  have hq' := row_lat hL
  have nps : q ∉ ps := fun z => by
    obtain ⟨i, hi, e⟩ := List.getElem_of_mem z
    have := h6 i q (by rw [List.getElem?_eq_getElem hi, e])
    exact hq _ this True.intro
  refine ⟨_, x2.at h1, sz_lt (by rw [List.length_map, h2]; exact hz), c1, Ex.mut (c2.trans x2) c1 (x2.at h1), ps ++ [q], by rw [upd_same, List.map_append]; rfl, by simp [h2], ?_, ?_, ?_, fun i r hr => ?_⟩
  · rw [List.nodup_append]
    exact ⟨h3, by simp, fun a ha b hb => by rw [List.mem_singleton.mp hb]; exact fun z => nps (z ▸ ha)⟩
  · intro z
    rcases List.mem_append.mp z with z | z
    · exact h4 z
    · exact nqp (List.mem_singleton.mp z).symm
  · intro r hr
    rcases List.mem_append.mp hr with z | z
    · exact h5 r z
    · rw [List.mem_singleton.mp z]
      exact c2.back hq
  · rw [List.getElem?_append] at hr
    split at hr
    · rename_i hlt
      have hrp : r ≠ Dl := fun z => h4 (z ▸ List.mem_of_getElem? hr)
      rw [upd_ne hrp]
      exact x2.at (h6 i r hr)
    · rename_i hge
      have hi : i = ps.length := by
        have := (List.getElem?_eq_some_iff.mp hr).1
        simp at this
        omega
      subst hi
      simp at hr
      subst hr
      rw [upd_ne nqp, h2]
      exact hq'
/-- [a new list for x in a tuple] -/
theorem em_lcT {α : Type} {l : List α} {enc : α → PyData} {j : Nat} {vs : List Nat} (M : Nat → Nat → Int) (hl : ED tl σ H (.tuple (l.map enc))) (hz : l.length ≤ 40000) (hw : ∀ x, wipe ((wipe σ vs).set j (some x)) vs = wipe σ vs)
    (hg : ∀ (x : V) (i : Nat) (a : α) H1, Ex H H1 → l[i]? = some a → Rp H1 x (enc a) → EL te ((wipe σ vs).set j (some x)) H1 ((List.range n).map fun j => PyData.int (M i j))) :
    EM (tLc (iTup K tl) (gName j) tYes te vs) σ H l.length n M := fun H0 x0 Q q => hl H0 x0 _ fun v H1 x1 r => by
  obtain ⟨a, xs, rfl, ha, rs⟩ := r.tupE
  refine ⟨a, rfl, ⟨xs, SqR ha⟩, fun Dl hD => ?_⟩
  refine lc_tup (xs := xs) (fun i H' => Nw H1 Dl ∧ Ex H1 H' ∧ MAt H1 H' Dl i n M) ⟨.of hD, Ex.new hD, MAt.nil ⟨[], upd_same, .nil⟩⟩ (fun i H' _ c => SqR (c.2.1.rd ha)) (fun i x H' hi c => ?_) (fun H' c => ?_)
  · obtain ⟨d, hd, rd⟩ := rs.getV hi
    rw [List.getElem?_map] at hd
    cases hc : l[i]? with
    | none => rw [hc] at hd; cases hd
    | some b =>
      rw [hc] at hd
      obtain rfl : enc b = d := Option.some.inj hd
      refine ⟨hw _, ?_⟩
      unfold tYes
      refine iteT ?_
      obtain ⟨c1, c2, c3⟩ := c
      have hil := (List.getElem?_eq_some_iff.mp hc).1
      refine hg x i b H1 (x0.trans x1) hc rd H' c2 _ fun p H2 hp x2 hL => ?_
      exact mat_add x2 c1 c2 c3 hp hL (by omega)
  · have e : xs.length = l.length := by rw [rs.len, List.length_map]
    rw [e] at c
    obtain ⟨c1, c2, ps, h1, h2, h3, h4, h5, h6⟩ := c
    exact q Dl H' (fresh_back x1 c1) (x1.trans c2) ⟨ps, h1, h2, h3, h4, fun q hq => x1.back (h5 q hq), h6⟩
theorem qm_asg {k m : Nat} {M : Nat → Nat → Int} (h : EM te σ H m n M) (q : ∀ p H1, Nw H p → Ex H H1 → MAt H H1 p m n M → tz D (σ.set k (some (.ref p))) H1) : tSeq (tAsg te (gName k)) tz D σ H := h H (Ex.refl H) _ q
/-- [f(row) for row in such a list] -/
theorem el_lcM {j m : Nat} {vs : List Nat} {a : Addr} {M : Nat → Nat → Int} (f : Nat → PyData) (hl : Ev tl σ H (.ref a)) (hp : MAt H0 H a m n M) (hz : m ≤ 40000) (hw : ∀ x, wipe ((wipe σ vs).set j (some x)) vs = wipe σ vs)
    (hg : ∀ (q : Addr) (i : Nat) H1, Ex H H1 → i < m → LAt H1 q ((List.range n).map fun j => PyData.int (M i j)) → ED te ((wipe σ vs).set j (some (.ref q))) H1 (f i)) :
    EL (tLc (iList K tl) (gName j) tYes te vs) σ H ((List.range m).map f) := fun H2 x0 Q q => hl H2 x0 _ fun H1 x1 => by
  obtain ⟨ps, h1, h2, h3, h4, h5, h6⟩ := hp.ex (x0.trans x1)
  refine ⟨a, rfl, ⟨_, SqL.of h1⟩, fun Dl hD => ?_⟩
  refine lc_list (xs := ps.map V.ref) (fun i H' => Cwd H1 Dl (((List.range m).take i).map f) H') ⟨.of hD, Ex.new hD, [], upd_same, .nil⟩ (fun i H' _ c => SqL.of (c.2.1.at h1)) (fun i x H' hi c => ?_) (fun H' c => ?_)
  · rw [List.getElem?_map] at hi
    cases hq : ps[i]? with
    | none => rw [hq] at hi; cases hi
    | some r =>
      rw [hq] at hi
      obtain rfl : V.ref r = x := Option.some.inj hi
      have hil : i < m := by have := (List.getElem?_eq_some_iff.mp hq).1; omega
      refine ⟨hw _, ?_⟩
      have hlen : (((List.range m).take i).map f).length < 100000 := by
        rw [List.length_map, List.length_take, List.length_range]
        omega
      refine cwd_turn (es := ((List.range m).take i).map f) (p := true) (y := f i) c hlen et_yes (fun _ => hg r i H1 (x0.trans x1) hil (lat_row (h6 i r hq))) (fun _ H2 c2 => ?_) (fun h => by cases h)
      rw [List.take_add_one, List.getElem?_range hil, List.map_append]
      exact c2
  · have e : (List.range m).take (ps.map V.ref).length = List.range m := List.take_of_length_le (by simp [h2])
    rw [e] at c
    exact q Dl H' (fresh_back x1 c.1) (x1.trans c.2.1) c.2.2
/-- m[i][j] = v, and on -/
theorem qd_mset {x i j m : Nat} {z : Int} {tv ti tj : TE} {M : Nat → Nat → Int} (e0 : Ex H0 H) (hs : σ[x]? = some (some (.ref p))) (hp : MAt H0 H p m n M) (hv : ED tv σ H (.int z)) (hi : ∀ H1, Ex H H1 → ED ti σ H1 (.int (i : Int))) (hj : ∀ H1, Ex H H1 → ED tj σ H1 (.int (j : Int))) (him : i < m) (hjn : j < n)
    (k : ∀ H2, Ex H0 H2 → MAt H0 H2 p m n (put2 M i j z) → Tx H H2 → tz D σ H2) : tSeq (tAsg tv (gSub (tOp (rIxL K) (tVar x) ti) tj rSetL)) tz D σ H := sd_mset (D := { D with nx := tz D }) e0 hs hp hv hi hj him hjn k
/-- tuple(..), known to its object, read as any other -/
theorem ed_tupFN (h : EL te σ H ds) : ED (tCB (rTupF K) (tCons te tNil)) σ H (.tuple ds) := fun H1 x Q q => en_tupN h H1 x Q fun v H2 x2 r _ => q v H2 x2 r
theorem ed_tupFL (h : Ev te σ H (.ref p)) (hp : LAt H p ds) : ED (tCB (rTupF K) (tCons te tNil)) σ H (.tuple ds) := fun H1 x Q q => h H1 x _ fun H2 x2 => by
  obtain ⟨xs, ha, rs⟩ := hp.ex (x.trans x2)
  exact ⟨p, xs, rfl, SqL.of ha, fun l o hl ho => q _ _ (x2.trans (Ex.new hl)) (.tup (.inr ⟨o, upd_same⟩) (rs.up (Tx.new hl)))⟩
end
theorem sq_nn (z : Int) : 0 ≤ z * z := by
  rcases Int.le_total 0 z with h | h
  · exact Int.mul_nonneg h h
  · have := Int.mul_nonneg (show 0 ≤ -z by omega) (show 0 ≤ -z by omega)
    rw [Int.neg_mul_neg] at this
    exact this
theorem en_is [Tbl] {te : TE} {σ : L2.St} {H : Hp} {d e : PyData} (h : EN te σ H d) (q : d = e) : EN te σ H e := q ▸ h
theorem qd_forE [Tbl] {K : PySem.W.Frag} {σ : L2.St} {H : Hp} {tu tz : TS} {D : Ends} {α : Type} {l : List α} {enc : α → PyData} {tl : TE} {i j : Nat} (h : ED tl σ H (.tuple (l.map enc))) (Pv : Hp → Nat → L2.St → Hp → Prop) (h0 : ∀ H1, Ex H H1 → Pv H1 0 σ H1) (hT : ∀ H1 k σ' H', Pv H1 k σ' H' → Tx H1 H')
    (hs : ∀ H1 (k : Nat) x a σ' H' H2, Ex H H1 → l[k]? = some a → Ex H' H2 → Rp H2 x (enc a) → Pv H1 k σ' H' → tu { D with nx := Pv H1 (k + 1), ct := Pv H1 (k + 1), bk := tz D } ((σ'.set i (some (.int (k : Int)))).set j (some x)) H2) (hd : ∀ H1 σ' H', Ex H H1 → Pv H1 l.length σ' H' → tz D σ' H') :
    tSeq (tFor (Wn.iEnumT K (tCons tl tNil)) (gTup K 2 (gCons (gName i) (gCons (gName j) gNil))) tu) tz D σ H := sd_forE (D := { D with nx := tz D }) h Pv h0 hT hs hd
/-! ### the boxes, plain -/
def R_lraised (ds : List PyData) (d : PyData) : Prop := R_raised ds d
def R_refused (ds : List PyData) (d : PyData) : Prop := ∃ (n : Nat) (bs : List (List Int)) (k a : Int), ds = [dBox n bs, .int k, .int a] ∧ Wf n bs ∧ ¬ (0 ≤ k ∧ k < (bs.length : Int)) ∧ d = .bool true
def spRaisedX [Tbl] (N : Addr) : Sp := fun vs H _ E => ∃ (n : Nat) (bs : List (List Int)) (k a y : Int), RpA H vs [dBox n bs, .int k, .int a, .int y] ∧ Wf n bs ∧ ¬ (0 ≤ k ∧ k < (bs.length : Int)) ∧ ∀ H', Ex H H' → E (.ref N) none H'
theorem trn_trn {bs : List (List Int)} : trn (trn bs) = bs := by
  unfold trn
  rw [List.map_map]
  have : ∀ b ∈ bs, ((fun b : List Int => b.map fun x => 99 - x) ∘ fun b : List Int => b.map fun x => 99 - x) b = b := fun b _ => by
    show ((b.map fun x => 99 - x).map fun x => 99 - x) = b
    rw [List.map_map]
    exact (List.map_congr_left fun (x : Int) _ => (show 99 - (99 - x) = x by omega)).trans (List.map_id' b)
  exact (List.map_congr_left this).trans (List.map_id' bs)
theorem row_of {b : List Int} {n : Nat} (h : b.length = n) : ((List.range n).map fun j => b.getD j 0) = b := by
  refine List.ext_getElem? fun k => ?_
  by_cases hk : k < n
  · rw [List.getElem?_map, List.getElem?_range hk, List.getElem?_eq_getElem (by omega)]
    show some (b.getD k 0) = _
    rw [List.getD_eq_getElem?_getD, List.getElem?_eq_getElem (by omega)]
    rfl
  · rw [List.getElem?_eq_none (by rw [List.length_map, List.length_range]; omega), List.getElem?_eq_none (by omega)]
theorem row_ints {b : List Int} {n : Nat} (h : b.length = n) : ((List.range n).map fun j => PyData.int (b.getD j 0)) = b.map PyData.int := by
  have e := congrArg (List.map PyData.int) (row_of h)
  rw [List.map_map] at e
  exact e
theorem sx_drop [Tbl] {σ : L2.St} {H : Hp} {ds : List PyData} {ta : TA} {sp : Sp} {E : L2.St → XK} {D : Ends} (h : EA ta σ H ds) (k : ∀ vs H2, Ex H H2 → RpA H2 vs ds → sp vs H2 (fun _ H' => D.nx σ H') (E σ)) : tDrop (tCallS sp E ta) D σ H := h H (.refl H) _ fun vs H2 x r => k vs H2 x r
theorem inv_perm {q : List Nat} {n : Nat} (hq : q.Perm (List.range n)) : ((List.range n).map fun m => q.idxOf m).Perm (List.range n) := by
  have hl : q.length = n := by rw [hq.length_eq, List.length_range]
  have iso := ren_iso (bs := []) hq
  refine (List.perm_ext_iff_of_nodup ?_ List.nodup_range).mpr fun x => ?_
  · refine List.pairwise_map.mpr (List.Pairwise.imp_of_mem ?_ List.nodup_range)
    intro a b ha hb hne z
    have h1 := iso.in2 a (List.mem_range.mp ha)
    have h2 := iso.in2 b (List.mem_range.mp hb)
    have h1 : q.getD (q.idxOf a) 0 = a := h1
    have h2 : q.getD (q.idxOf b) 0 = b := h2
    rw [z] at h1
    exact hne (h1.symm.trans h2)
  · constructor
    · intro h
      obtain ⟨m, hm, rfl⟩ := List.mem_map.mp h
      exact List.mem_range.mpr (iso.lt2 m (List.mem_range.mp hm))
    · intro h
      have hx := List.mem_range.mp h
      exact List.mem_map.mpr ⟨q.getD x 0, List.mem_range.mpr (iso.lt1 x hx), iso.in1 x hx⟩
theorem inv_idx {q : List Nat} {n m : Nat} (hq : q.Perm (List.range n)) (hm : m < n) : ((List.range n).map fun m => q.idxOf m).idxOf m = q.getD m 0 := by
  have iso := ren_iso (bs := []) hq
  have iso2 := ren_iso (bs := []) (inv_perm hq)
  have hg : ∀ a, a < n → ((List.range n).map fun m => q.idxOf m).getD a 0 = q.idxOf a := fun a ha => by
    rw [List.getD_eq_getElem?_getD, List.getElem?_map, List.getElem?_range ha]
    rfl
  have h1 : ((List.range n).map fun m => q.idxOf m).getD (((List.range n).map fun m => q.idxOf m).idxOf m) 0 = m := iso2.in2 m hm
  have hlt : ((List.range n).map fun m => q.idxOf m).idxOf m < n := iso2.lt2 m hm
  rw [hg _ hlt] at h1
  have h2 : q.getD (q.idxOf (((List.range n).map fun m => q.idxOf m).idxOf m)) 0 = _ := iso.in2 _ hlt
  rw [h1] at h2
  exact h2.symm
theorem ren_get {bs : List (List Int)} {b : List Int} {n m : Nat} {q : List Nat} (hm : m < n) : ((List.range n).map fun m => b.getD (q.idxOf m) 0).getD m 0 = b.getD (q.idxOf m) 0 := by
  rw [List.getD_eq_getElem?_getD, List.getElem?_map, List.getElem?_range hm]
  rfl
theorem ren_ren {bs : List (List Int)} {n : Nat} {q : List Nat} (hq : q.Perm (List.range n)) (wf : ∀ b ∈ bs, b.length = n) : ren (ren bs n q) n ((List.range n).map fun m => q.idxOf m) = bs := by
  have iso := ren_iso (bs := []) hq
  unfold ren
  rw [List.map_map]
  refine (List.map_congr_left (g := id) fun b hb => ?_).trans (List.map_id bs)
  show ((List.range n).map fun m => ((List.range n).map fun m => b.getD (q.idxOf m) 0).getD (((List.range n).map fun m => q.idxOf m).idxOf m) 0) = b
  refine Eq.trans (List.map_congr_left fun m hm => ?_) (row_of (wf b hb))
  have hmn := List.mem_range.mp hm
  rw [inv_idx hq hmn, ren_get (bs := bs) (iso.lt1 m hmn)]
  have h : q.idxOf (q.getD m 0) = m := iso.in1 m hmn
  rw [h]
theorem rows_rsd {bs : List (List Int)} {n k a : Nat} {y : Int} (wf : ∀ b ∈ bs, b.length = n) (hk : k < bs.length) (ha : a < n) :
    ((List.range bs.length).map fun i => PyData.tuple ((List.range n).map fun j => PyData.int (put2 (fun i j => (bs.getD i []).getD j 0) k a (max 0 ((bs.getD k []).getD a 0 - y)) i j))) = (rsd bs k a y).map dB := by
  have hb := wf _ (getD_mem hk)
  refine List.ext_getElem? fun i => ?_
  rw [List.getElem?_map, List.getElem?_map]
  unfold rsd
  rw [List.getElem?_set]
  by_cases hi : i < bs.length
  · rw [List.getElem?_range hi]
    have hbi := wf _ (getD_mem hi)
    by_cases e : k = i
    · subst e
      rw [if_pos rfl, if_pos hk]
      show some _ = some (dB (rsB (bs.getD k []) a y))
      unfold dB
      have e2 : rsB (bs.getD k []) a y = (List.range n).map fun j => (rsB (bs.getD k []) a y).getD j 0 := (row_of (by rw [rsB_len]; exact hb)).symm
      rw [e2, List.map_map]
      refine congrArg (fun l => some (PyData.tuple l)) (List.map_congr_left fun j hj => ?_)
      show PyData.int (put2 _ k a _ k j) = PyData.int ((rsB (bs.getD k []) a y).getD j 0)
      rw [rsB_get (by omega)]
      unfold put2
      by_cases ej : j = a
      · simp [ej]
      · simp [ej]
    · rw [if_neg e, List.getElem?_eq_getElem hi]
      show some _ = some (dB bs[i])
      have e3 : bs.getD i [] = bs[i] := by rw [List.getD_eq_getElem?_getD, List.getElem?_eq_getElem hi]; rfl
      have e2 : bs[i] = (List.range n).map fun j => (bs[i]).getD j 0 := (row_of (by rw [← e3]; exact hbi)).symm
      unfold dB
      rw [e2, List.map_map]
      refine congrArg (fun l => some (PyData.tuple l)) (List.map_congr_left fun j hj => ?_)
      show PyData.int (put2 _ k a _ i j) = PyData.int (bs[i].getD j 0)
      unfold put2
      rw [if_neg (fun z => e z.1.symm)]
      show PyData.int ((bs.getD i []).getD j 0) = _
      rw [e3]
  · rw [List.getElem?_eq_none (by rw [List.length_range]; omega), if_neg (by omega)]
    by_cases e : k = i
    · omega
    · rw [List.getElem?_eq_none (by omega)]
      rfl
end W7
namespace W7
open PySem PySem.Spec PyProof.Rows L2 Wd
theorem nb_mk {K : PySem.W.Frag} {mg : Str → Option Value} {h : Heap} {W N : Addr} (X : K.In h) (G : h.Ns mainGlobals mg)
    (a1 : PySem.W.nsIn K mainGlobals "WishError" = some (some (.ref W))) (a2 : PySem.W.nsIn K mainGlobals "NoBallot" = some (some (.ref N))) (a3 : PySem.W.nsIn K mainGlobals "ValueError" = some none)
    (x : PySem.W.excIn K N [.type "ValueError", .type "Exception", .type "BaseException", .type "object"] "ValueError.__new__" = true)
    (k : PySem.W.keepIn K (.ref N) = true) (b : PySem.W.subIn K (.ref N) (.type "BaseException") = some true) (t : PySem.W.typeIn K (.ref N) = some (.type "type"))
    (c1 : PySem.W.findIn K (.ref N) "__getattribute__" = some (some (.builtin "BaseException.__getattribute__"))) (c2 : PySem.W.findIn K (.ref N) "__getattr__" = some none) (c4 : PySem.W.hasDictIn K N = true)
    (c5 : PySem.W.findIn K (.ref N) "__class__" = some (some (.builtin "object.__class__"))) (c6 : PySem.W.specialIn K (.builtin "object.__class__") "__get__" = some (some (.builtin "getset_descriptor.__get__")))
    (c7 : PySem.W.takesIn K (.builtin "object.__class__") = some true) (c8 : PySem.W.mroIn K N (.type "object") = some true)
    (w1 : PySem.W.subIn K (.ref W) (.type "BaseException") = some true) (w2 : PySem.W.hasDictIn K W = true) (w3 : PySem.W.typeIn K (.ref W) = some (.type "type")) (w4 : PySem.W.subIn K (.ref N) (.ref W) = some true)
    (v : PySem.W.subIn K (.ref N) (.type "ValueError") = some true) : NB K mg W N := by
  refine ⟨PySem.W.mg_of X G a1, PySem.W.mg_of X G a2, PySem.W.mg_none_of X G a3, x, k, b, t, ⟨c1, c2, b, c4, c5, c6, c7, c8⟩, PySem.W.exm_ref w1 w2 w3 w4, ?_, ?_⟩
  · unfold PySem.W.kitOne
    rw [if_pos (by simp)]
  · unfold PySem.W.kitOne
    rw [if_neg (by simp)]
    show (if PySem.W.kitMeta "ValueError" = true then PySem.W.subIn K (.ref N) (.type "ValueError") else none) = some true
    rw [if_pos (by decide +kernel)]
    exact v
end W7
/-! Tuples many times over; lists of things; joins and slices of things. -/
namespace W1
open PySem PySem.Spec PyProof.Rows L2 Wd Wt Wx Wm Wg Wy Wz Wc Wq Wj Wi
theorem tuple_mul1 (l : Addr) (items : Array Value) (n : Nat) (dd : Option Addr) (sl : Array (Option Value)) (u : Tok) (c1 : (items.isEmpty || (1 : Int) == 1) = true) :
    Meets (Builtin.«tuple.__mul__» ⟨[.ref l, .int 1 u], []⟩) (fun _ R s => s.heap.get? l = some { cls := .type "tuple", dict := dd, data := .seq items n, slots := sl } ∧ R (.ok (.ret (Value.ref l))) { s with heap := s.heap, toks := s.toks }) :=
  .of_wp fun prog w A R s h => by
    obtain ⟨hp, g, d, tk, os⟩ := s
    obtain ⟨hl, h⟩ := h
    have f1 := AutoSeq1.idx_int
    have c0 : (decide ((1 : Int) < -(2 ^ 63)) || decide ((1 : Int) ≥ 2 ^ 63)) = false := by decide
    wp_walk using wpAny_loadPart' hl
    repeat (first
      | (refine wpAny_ite_false (decide_eq_false (by rw [c0]; exact Bool.false_ne_true)) ?_; wp_walk using wpAny_loadPart' hl)
      | (refine wpAny_ite_true (decide_eq_true c1) ?_; wp_walk using wpAny_loadPart' hl))
    exact ⟨_, rfl, h⟩
def rRepA (K : PySem.W.Frag) : R2 := fun x y H Q => ∃ l k xs, x = V.ref l ∧ y = V.int k ∧ SqT K H l xs ∧ xs ≠ [] ∧ 1 ≤ k ∧ k ≤ 1000 ∧ xs.length ≤ 1000 ∧ (k = 1 → Q (.ref l) H) ∧ ∀ p, H p = none → Q (.ref p) (upd H p (.tup (List.replicate k.toNat xs).flatten))
theorem op_repA {X : Cx} {K : PySem.W.Frag} (hK : X.K = K) : OpR X (binaryOp .Mult) (rRepA K) := by
  subst hK
  intro pins s σ H x y v u Q I rx ry h
  obtain ⟨l, k, xs, rfl, rfl, hT, hne, h1, h2, hz, q1, q⟩ := h
  by_cases hk : k = 1
  · subst hk
    have q1 := q1 rfl
    cases rx
    obtain ⟨t, rfl⟩ := ry
    obtain ⟨its, r, ⟨⟨cls, dd, data, sl⟩, ho, hc, n, hd⟩, hs⟩ := I.tuple hT
    simp only at hc hd
    subst hc hd
    refine wpAny_binaryOp_repeat_ref (T := "tuple") (U := "int") (by decide) ⟨_, ho, rfl⟩ (fun s' => typeIs_int s' 1 t) noFill_tuple_mul F.fills_int_mul F.slot_int_rmul repeat_tuple F.slot_int_index.lookup
      (call_meets F.slot_int_rmul (typeIs_int s 1 t) F.entry_int_rmul (F.args_int_rmul_2 _ _) (int_rmul_tuple 1 t l its.toArray n dd sl)
        ⟨ho, rfl, ⟨_, ho, rfl⟩, call_meets F.slot_tuple_mul ⟨_, ho, rfl⟩ F.entry_tuple_mul (F.args_tuple_mul_2 _ _) (tuple_mul1 l its.toArray n dd sl t (by simp)) ⟨ho, ?_⟩⟩)
    exact ⟨.ref l, H, I, rfl, q1⟩
  · exact op_repT pins s σ H _ _ v u Q I rx ry ⟨l, k, xs, rfl, rfl, hT, hne, by omega, h2, hz, q⟩
/-- a list of things -/
def LTh (H : Hp) (p : Addr) (ds : List PyData) : Prop := ∃ vs, H p = some (.lst vs) ∧ ThA H vs ds
section
variable [Tbl] {K : PySem.W.Frag} {σ : L2.St} {H H' H0 : Hp} {ta tb te tl tx : TE} {t : TT} {v : V} {d d1 d2 : PyData} {ds es : List PyData} {D : Ends} {tu tw tz : TS} {p : Addr} {n : Nat} {i j : Int}
theorem RpA.rep {vs : List V} (h : RpA H vs ds) : ∀ k : Nat, RpA H (List.replicate k vs).flatten (List.replicate k ds).flatten
  | 0 => .nil
  | k + 1 => by
    rw [List.replicate_succ, List.replicate_succ, List.flatten_cons, List.flatten_cons]
    exact h.append (RpA.rep h k)
/-- t * k -/
theorem ed_rep {k : Nat} (ha : ED ta σ H (.tuple ds)) (hb : ED tb σ H (.int (k : Int))) (h0 : ds ≠ []) (h1 : 1 ≤ k) (h2 : k ≤ 1000) (h3 : ds.length ≤ 1000) : ED (tOp (rRepA K) ta tb) σ H (.tuple (List.replicate k ds).flatten) := fun H1 x Q q =>
  ha H1 x _ fun v H2 x2 r => hb H2 (x.trans x2) _ fun w H3 x3 s => by
    obtain ⟨a, xs, rfl, ha', rs⟩ := (r.ex x3).tupE
    refine ⟨a, (k : Int), xs, rfl, s.intE, SqR ha', fun z => h0 ?_, by omega, by omega, by rw [rs.len]; exact h3, fun hk => ?_, fun p hp => ?_⟩
    · subst z
      exact List.eq_nil_of_length_eq_zero rs.len.symm
    · have hk : k = 1 := by omega
      subst hk
      refine q _ H3 (x2.trans x3) ?_
      have e : (List.replicate 1 ds).flatten = ds := by simp
      rw [e]
      exact .tup ha' rs
    · exact q _ _ ((x2.trans x3).trans (Ex.new hp)) (.tup (.inl upd_same) ((RpA.rep rs k).up (Tx.new hp)))
theorem ThA.append : ∀ {ds es : List PyData} {vs ws : List V}, ThA H vs ds → ThA H ws es → ThA H (vs ++ ws) (ds ++ es)
  | [], _, _, _, h, k => by cases h; exact k
  | d :: ds, _, _, _, h, k => by
    cases h with
    | cons h1 h2 => exact .cons h1 (ThA.append h2 k)
/-- t + u, tuples of things -/
theorem th_cat (ha : ET ta σ H (.tuple ds)) (hb : ET tb σ H (.tuple es)) (hz : ds.length + es.length ≤ 100000) : ET (tOp (rCatA K) ta tb) σ H (.tuple (ds ++ es)) := fun H1 x Q q =>
  ha H1 x _ fun v H2 x2 r => hb H2 (x.trans x2) _ fun w H3 x3 s => by
    obtain ⟨a, xs, rfl, ha', rs⟩ := (r.ex x3).tupE
    obtain ⟨b, ys, rfl, hb', ss⟩ := s.tupE
    have x23 := x2.trans x3
    refine ⟨a, b, xs, ys, rfl, rfl, SqR ha', SqR hb', sz_of (by rw [rs.len, ss.len]; exact hz), fun h => ?_, fun _ h => ?_, fun _ _ p hp => ?_⟩
    · have : ds = [] := List.eq_nil_of_length_eq_zero (by rw [← rs.len, h]; rfl)
      rw [this, List.nil_append] at q
      exact q _ H3 x23 (.tup hb' ss)
    · have : es = [] := List.eq_nil_of_length_eq_zero (by rw [← ss.len, h]; rfl)
      rw [this, List.append_nil] at q
      exact q _ H3 x23 (.tup ha' rs)
    · exact q _ _ (x23.trans (Ex.new hp)) (.tup (.inl upd_same) ((rs.append ss).ex (Ex.new hp)))
/-- t[:-1] -/
theorem ed_slInit (ha : ED ta σ H (.tuple ds)) (hb : ED tb σ H (.int (-1))) (h1 : 1 ≤ ds.length) : ED (tSl (rSlA K) ta tNoPart (tPart tb)) σ H (.tuple (ds.take (ds.length - 1))) := fun H1 x Q q =>
  ha H1 x _ fun v H2 x2 r => hb H2 (x.trans x2) _ fun w H3 x3 s => ⟨(-1 : Int), s.intE, by
    obtain ⟨a, xs, rfl, ha', rs⟩ := (r.ex x3).tupE
    have hl := rs.len
    have e1 : HT.sIx xs.length xs.length (some (-1 : Int)) = xs.length - 1 := by
      unfold HT.sIx
      simp
      omega
    have e0 : HT.sIx xs.length 0 none = 0 := rfl
    refine ⟨a, xs, rfl, SqR ha', fun h => ?_, fun _ p hp => ?_⟩
    · rw [e1] at h
      omega
    · have e : cutV xs none (some (-1 : Int)) = xs.take (ds.length - 1) := by
        unfold cutV
        rw [e0, e1, List.drop_zero, Nat.sub_zero, hl]
      rw [e]
      exact q _ _ ((x2.trans x3).trans (Ex.new hp)) (.tup (.inl upd_same) ((rs.take _).up (Tx.new hp)))⟩
theorem LTh.ex (h : LTh H p ds) (e : Ex H H') : LTh H' p ds := by
  obtain ⟨vs, h1, h2⟩ := h
  exact ⟨vs, e.at h1, h2.ex e⟩
theorem LTh.of (h : LAt H p ds) : LTh H p ds := by
  obtain ⟨vs, h1, h2⟩ := h
  exact ⟨vs, h1, .of h2⟩
/-- what evaluates to a new list of things -/
def ELT (te : TE) (σ : L2.St) (H : Hp) (ds : List PyData) : Prop := ∀ H1, Ex H H1 → ∀ Q : VK, (∀ p H2, Nw H1 p → Ex H1 H2 → LTh H2 p ds → Q (.ref p) H2) → te σ H1 Q
/-- .. to a list of things -/
def EVT (te : TE) (σ : L2.St) (H : Hp) (ds : List PyData) : Prop := ∀ H1, Ex H H1 → ∀ Q : VK, (∀ p H2, Ex H1 H2 → LTh H2 p ds → Q (.ref p) H2) → te σ H1 Q
theorem elt_lst {ta : TA} (h : ETA ta σ H ds) (hl : ds.length ≤ 100000) : ELT (tLst ta) σ H ds := fun H1 x _ q =>
  h H1 x _ fun vs H2 x2 r => ⟨sz_of (by rw [r.len]; exact hl), fun p hp => q _ _ (x2.back (.of hp)) (x2.trans (Ex.new hp)) ⟨vs, upd_same, r.ex (Ex.new hp)⟩⟩
theorem evt_elt (h : ELT te σ H ds) : EVT te σ H ds := fun H1 x Q q => h H1 x Q fun p H2 _ x2 hp => q p H2 x2 hp
theorem evt_var {k : Nat} (h : σ[k]? = some (some (.ref p))) (r : LTh H p ds) : EVT (tVar k) σ H ds := fun H1 x Q q => ⟨_, h, q p H1 (Ex.refl H1) (r.ex x)⟩
/-- l + m -/
theorem elt_cat (ha : EVT ta σ H ds) (hb : EVT tb σ H es) (hz : ds.length + es.length ≤ 100000) : ELT (tOp rCat ta tb) σ H (ds ++ es) := fun H1 x Q q =>
  ha H1 x _ fun p H2 x2 hp => hb H2 (x.trans x2) _ fun r H3 x3 hr => by
    obtain ⟨vs, h1, h2⟩ := hp.ex x3
    obtain ⟨ws, h3, h4⟩ := hr
    exact ⟨p, r, vs, ws, rfl, rfl, h1, h3, sz_of (by rw [h2.len, h4.len]; exact hz), fun l hl => q l _ ((x2.trans x3).back (.of hl)) ((x2.trans x3).trans (Ex.new hl)) ⟨_, upd_same, (h2.append h4).ex (Ex.new hl)⟩⟩
theorem qt_asgL {k : Nat} (h : ELT te σ H ds) (q : ∀ p H1, Nw H p → Ex H H1 → LTh H1 p ds → tz D (σ.set k (some (.ref p))) H1) : tSeq (tAsg te (gName k)) tz D σ H := h H (Ex.refl H) _ q
/-- l[i] -/
theorem th_ixL {k : Nat} (ha : EVT ta σ H ds) (hb : ED tb σ H (.int (k : Int))) (hk : ds[k]? = some d) : ET (tOp (rIxL K) ta tb) σ H d := fun H1 x _ q =>
  ha H1 x _ fun p H2 x2 hp => hb H2 (x.trans x2) _ fun w H3 x3 s => by
    obtain ⟨xs, ha', rs⟩ := hp.ex x3
    obtain ⟨y, hy, ry⟩ := rs.get hk
    exact ⟨p, xs, (k : Int), y, rfl, s.intE, SqL.of ha', atI_nat hy, q y H3 (x2.trans x3) ry⟩
theorem th_lenL (ha : EVT ta σ H ds) : ED (tCB (Wd.rLen K) (tCons ta tNil)) σ H (.int (ds.length : Int)) := fun H1 x Q q =>
  ha H1 x _ fun p H2 x2 hp => by
    obtain ⟨xs, ha', rs⟩ := hp
    exact ⟨p, xs, rfl, .inl (SqL.of ha'), q _ H2 x2 (by rw [rs.len]; exact .int _)⟩
/-- for x in a new list of things -/
theorem qt_forL {g : TG} (h : ELT tl σ H ds) (Pv : Hp → Nat → L2.St → Hp → Prop) (h0 : ∀ H1, Ex H H1 → Pv H1 0 σ H1) (hT : ∀ H1 k σ' H', Pv H1 k σ' H' → Ex H1 H')
    (hs : ∀ H1 (k : Nat) x d σ' H', Ex H H1 → ds[k]? = some d → Th H' x d → Pv H1 k σ' H' → g x σ' H' fun σ2 H2 => tu { D with nx := Pv H1 (k + 1), ct := Pv H1 (k + 1), bk := tz D } σ2 H2) (hd : ∀ H1 σ' H', Ex H H1 → Pv H1 ds.length σ' H' → tz D σ' H') :
    tSeq (tFor (iList K tl) g tu) tz D σ H := h H (Ex.refl H) _ fun p H1 _ e hp => by
  obtain ⟨xs, ha, rs⟩ := hp
  have hl : xs.length = ds.length := rs.len
  refine ⟨p, rfl, ⟨xs, SqL.of ha⟩, for_list (K := K) (a := p) (xs := xs) (Pv H1) (h0 H1 e) (fun i σ' H' _ z => SqL.of ((hT H1 i σ' H' z).at ha)) (fun k x σ' H' hk z => ?_) (fun σ' H' z => hd H1 σ' H' e (by rw [← hl]; exact z))⟩
  obtain ⟨d, hd, rd⟩ := rs.getV hk
  exact hs H1 k x d σ' H' e hd (rd.ex (hT H1 k σ' H' z)) z
/-- script[a:b] -/
theorem el_slS {ns : List Int} {lo hi : TE} {a b : Nat} (hl : Ev tl σ H (.ref p)) (hp : SqL K H p (ns.map V.int)) (h1 : ED lo σ H (.int (a : Int))) (h2 : ED hi σ H (.int (b : Int))) : EL (tSl (rSlL K) tl (tPart lo) (tPart hi)) σ H (((ns.drop a).take (b - a)).map PyData.int) := fun H1 x Q q =>
  hl H1 x _ fun H2 x2 => h1 H2 (x.trans x2) _ fun v H3 x3 r => ⟨(a : Int), r.intE, h2 H3 ((x.trans x2).trans x3) _ fun w H4 x4 s => ⟨(b : Int), s.intE, by
    refine ⟨p, _, rfl, ex_l (((x.trans x2).trans x3).trans x4) hp, fun l hl => ?_⟩
    have xx := (x2.trans x3).trans x4
    refine q l _ (xx.back (.of hl)) (xx.trans (Ex.new hl)) ⟨_, upd_same, ?_⟩
    have e : cutV (ns.map V.int) (some (a : Int)) (some (b : Int)) = ((ns.drop a).take (b - a)).map V.int := by
      unfold cutV
      rw [HT.sIx_nat, HT.sIx_nat, List.length_map]
      by_cases ha : a ≤ ns.length
      · rw [Nat.min_eq_left ha, List.map_take, List.map_drop]
        by_cases hb : b ≤ ns.length
        · rw [Nat.min_eq_left hb]
        · rw [Nat.min_eq_right (by omega), List.take_of_length_le (by simp), List.take_of_length_le (by simp; omega)]
      · rw [List.drop_of_length_le (by simp; omega), List.drop_of_length_le (by omega)]
        simp
    rw [e]
    exact RpA.ints _⟩⟩
end
end W1
namespace W1
open PySem PySem.Spec PyProof.Rows L2 Wd Wm
def bad7 : List PyData := [.int 100, .int (-1), .bool true, .none, .str "1", .tuple [.int 1], .int (10 ^ 20)]
def badL (b : List Int) (at_ : Nat) : List PyData := (bad7.map fun e => PyData.tuple (((b.map PyData.int).take at_ ++ [e]) ++ (b.map PyData.int).drop (at_ + 1))) ++
  [.list (b.map PyData.int), .tuple (b.map PyData.int ++ [.int 0]), .tuple ((b.map PyData.int).take ((b.map PyData.int).length - 1)), .none, .int 7, .str "ballot", .tuple [dB b]]
def spBad [Tbl] : Sp := fun vs H Q _ => ∃ (b : List Int) (c : Int) (v : V), vs = [v, .int c] ∧ Rp H v (dB b) ∧ 1 ≤ b.length ∧ b.length ≤ 20 ∧ Pl b ∧ ∀ v' d H', Ex H H' → Th H' v' d → balB (b.length : Int) d = false → Q v' H'
theorem bad7_no : ∀ e ∈ bad7, numB 99 e = false := by
  intro e he
  unfold bad7 at he
  simp only [List.mem_cons, List.not_mem_nil, or_false] at he
  rcases he with rfl | rfl | rfl | rfl | rfl | rfl | rfl <;> rfl
theorem bal_no {m : Int} {ds : List PyData} {e : PyData} (he : e ∈ ds) (h : numB 99 e = false) : balB m (.tuple ds) = false := by
  show (decide ((ds.length : Int) = m) && ds.all (numB 99)) = false
  have : ds.all (numB 99) = false := by
    rw [List.all_eq_false]
    exact ⟨e, he, by rw [h]; exact Bool.false_ne_true⟩
  rw [this, Bool.and_false]
theorem bal_len {m : Int} {ds : List PyData} (h : (ds.length : Int) ≠ m) : balB m (.tuple ds) = false := by
  show (decide ((ds.length : Int) = m) && ds.all (numB 99)) = false
  rw [decide_eq_false h, Bool.false_and]
theorem badL_bad {b : List Int} {at_ : Nat} (h1 : 1 ≤ b.length) (ha : at_ < b.length) : ∀ d ∈ badL b at_, balB (b.length : Int) d = false := by
  intro d hd
  unfold badL at hd
  rcases List.mem_append.mp hd with hd | hd
  · obtain ⟨e, he, rfl⟩ := List.mem_map.mp hd
    exact bal_no (e := e) (by simp) (bad7_no e he)
  · simp only [List.mem_cons, List.not_mem_nil, or_false] at hd
    rcases hd with rfl | rfl | rfl | rfl | rfl | rfl | rfl
    · rfl
    · exact bal_len (by rw [List.length_append, List.length_map]; simp; omega)
    · exact bal_len (by rw [List.length_take, List.length_map]; omega)
    · rfl
    · rfl
    · rfl
    · exact bal_no (e := dB b) (by simp) rfl
theorem box_no {n : Int} {bs : List PyData} {e : PyData} (he : e ∈ bs) (h : balB n e = false) : boxB (.tuple [.int n, .tuple bs]) = false := by
  show ((decide (1 ≤ n) && decide (n ≤ 7)) && (decide (bs.length ≤ 40) && bs.all (balB n))) = false
  have : bs.all (balB n) = false := by
    rw [List.all_eq_false]
    exact ⟨e, he, by rw [h]; exact Bool.false_ne_true⟩
  rw [this, Bool.and_false, Bool.and_false]
/-- (0,) * n, as the program makes it -/
def zt (x : Int) (n : Nat) : PyData := .tuple (List.replicate n [PyData.int x]).flatten
theorem zt_dB (x : Int) (n : Nat) : zt x n = dB (List.replicate n x) := by
  unfold zt dB
  rw [List.map_replicate]
  congr 1
  simp
def bads (n : Nat) (bs : List (List Int)) : List PyData := [.tuple [.int 0, .tuple []], .tuple [.int 8, .tuple []], .tuple [.bool true, .tuple []], .tuple [.int (n : Int), .list (bs.map dB)], .list [.int (n : Int), .tuple (bs.map dB)], .tuple [.int (n : Int)],
  .tuple [.int (n : Int), .tuple (bs.map dB), .int 0], .none] ++ [.tuple [.int (n : Int), .none], .tuple [.str "1", .tuple []], .int 7, .str "box", .tuple [.int (n : Int), .tuple (List.replicate 41 [zt 0 n]).flatten], .tuple [.int ((n : Int) + 1), .tuple [zt 0 n]]]
theorem bads_bad {n : Nat} {bs : List (List Int)} : ∀ d ∈ bads n bs, boxB d = false := by
  intro d hd
  unfold bads at hd
  simp only [List.cons_append, List.nil_append, List.mem_cons, List.not_mem_nil, or_false] at hd
  rcases hd with rfl | rfl | rfl | rfl | rfl | rfl | rfl | rfl | rfl | rfl | rfl | rfl | rfl | rfl
  · rfl
  · rfl
  · rfl
  · rfl
  · rfl
  · rfl
  · rfl
  · rfl
  · rfl
  · rfl
  · rfl
  · rfl
  · show ((decide (1 ≤ (n : Int)) && decide ((n : Int) ≤ 7)) && (decide ((List.replicate 41 [zt 0 n]).flatten.length ≤ 40) && _)) = false
    have : (List.replicate 41 [zt 0 n]).flatten.length = 41 := by simp
    rw [this, decide_eq_false (show ¬ 41 ≤ 40 by decide), Bool.false_and, Bool.and_false]
  · refine box_no (e := zt 0 n) (by simp) ?_
    rw [zt_dB]
    exact bal_len (by rw [List.length_map, List.length_replicate]; omega)
theorem good99 {n : Nat} (h1 : 1 ≤ n) (h7 : n ≤ 7) : boxB (.tuple [.int (n : Int), .tuple (List.replicate 40 [zt 99 n]).flatten]) = true := by
  have e : PyData.tuple [.int (n : Int), .tuple (List.replicate 40 [zt 99 n]).flatten] = dBox n (List.replicate 40 (List.replicate n 99)) := by
    unfold dBox
    rw [zt_dB, List.map_replicate]
    simp
  rw [e]
  refine box_pl h1 h7 (by simp) fun b hb => ?_
  obtain ⟨_, rfl⟩ := List.mem_replicate.mp hb
  refine ⟨by simp, fun x hx => ?_⟩
  obtain ⟨_, rfl⟩ := List.mem_replicate.mp hx
  omega
end W1
namespace W1
open PySem L2 Wd Wm
theorem qt_bad [Tbl] {σ : L2.St} {H : Hp} {D : Ends} {tz : TS} {t : TA} {E : XK} {k : Nat} {b : List Int} {c : Int} (h : EA t σ H [dB b, .int c]) (h1 : 1 ≤ b.length) (h2 : b.length ≤ 20) (pl : Pl b)
    (q : ∀ v d H1, Ex H H1 → Th H1 v d → balB (b.length : Int) d = false → tz D (σ.set k (some v)) H1) : tSeq (tAsg (tCall spBad [] E t) (gName k)) tz D σ H := h H (.refl H) _ fun vs H2 x r => by
  obtain ⟨v0, v1, rfl, r0, r1⟩ := r.e2
  exact ⟨b, c, v0, by rw [r1.intE]; rfl, r0, h1, h2, pl, fun v d H3 x3 s hb => q v d H3 (x.trans x3) s hb⟩
end W1
/-! sorted of a dict whose keys are tuples of whole numbers; list.remove of such a tuple. -/
namespace W11
open PySem PySem.Spec PyProof.Rows L2 Wd Wt Wx Wm Wg Wy Wz Wc Wq Wj Wi
theorem paired_rows {H : Hp} : ∀ {kvs : List (List Key × V)} {bs : List Addr} {ks : List (List Int)}, IsKeys H kvs bs → kvs.map (·.1) = ks.map (fun b => b.map Sum.inl) →
    ∃ L : List (Addr × List Int), L.map (·.2) = ks ∧ L.map (·.1) = bs ∧ ∀ q ∈ L, H q.1 = some (.tup (q.2.map V.int)) := by
  intro kvs bs ks h
  unfold IsKeys at h
  induction h generalizing ks with
  | nil =>
    intro e
    cases ks with
    | nil => exact ⟨[], rfl, rfl, fun q hq => nomatch hq⟩
    | cons a r => simp at e
  | @cons p b kvs bs h t ih =>
    intro e
    cases ks with
    | nil => simp at e
    | cons a r =>
      rw [List.map_cons, List.map_cons] at e
      obtain ⟨e1, e2⟩ := List.cons.inj e
      obtain ⟨L, h1, h2, h3⟩ := ih e2
      refine ⟨(b, a) :: L, by rw [List.map_cons, h1], by rw [List.map_cons, h2], fun q hq => ?_⟩
      rcases List.mem_cons.mp hq with rfl | hq
      · show H b = some (.tup (a.map V.int))
        rw [h, e1, List.map_map]
        rfl
      · exact h3 q hq
section
variable {X : Cx}
def rSortedDT (d : Nat) (B : Int) : List V → Hp → VK → Prop := fun vs H Q => ∃ (a : Addr) (kvs : List (List Key × V)) (ks : List (List Int)), vs = [V.ref a] ∧ H a = some (.dT kvs) ∧ kvs.map (·.1) = ks.map (fun b => b.map Sum.inl) ∧ ks.length < 64 ∧ (∀ b ∈ ks, b.length = d ∧ TS.Bd B b) ∧
  ∀ (L : List (Addr × List Int)) (p : Addr), (L.map (·.2)).Perm ks → L.Pairwise (fun q r => TS.code B q.2 ≤ TS.code B r.2) → (∀ q ∈ L, H q.1 = some (.tup (q.2.map V.int))) → H p = none → Q (.ref p) (upd H p (.lst (L.map fun q => V.ref q.1)))
theorem cr_sortedDT {d : Nat} {B : Int} (hd1 : 1 ≤ d) (hc : X.calm = true) : CallR X (.builtin "sorted") (rSortedDT d B) := by
  intro pins s σ H xs us Q I r h
  obtain ⟨a, kvs, ks0, rfl, hda, hks, h64, hB, q⟩ := h
  obtain ⟨u, rfl, rx⟩ := r.one
  cases rx
  obtain ⟨z, hs, ks, pr, o, es, ep, ho, hx, hdt, he, hn⟩ := (show ObjOk X.prog X.w H s.heap a (.dT kvs) from I.hok a _ hda)
  have l1 : es.size = ks.length := size_of_entries he
  have l2 : kvs.length = ks.length := Paired.length pr
  have l3 : kvs.length = ks0.length := by
    have e := congrArg List.length hks
    rw [List.length_map, List.length_map] at e
    exact e
  obtain ⟨L0, m1, m2, m3⟩ := paired_rows (isKeys_of pr) hks
  refine Calls.call_function_entry PyProof.Rows.kind_sorted PyProof.Rows.plain_sorted PyProof.Rows.entry_sorted (PyProof.Rows.args_sorted1 _) ?_
  unfold Builtin.«sorted»
  refine wpAny_bind (m := checkCount "sorted" 1 1 _) (wpAny_pure ?_)
  refine wpAny_bind (PySem.W.kdu_collect (A := X.A.in1) (kdl_raw hs hx hdt) (I.ok.hd hc) ho (by rw [l1, ← l2, l3, sizeLine_eq]; omega) fun h' tk acc kp it => ?_)
  have ea : acc.toList = ks.map fun x => Value.ref x.2.1 := by
    have hl : acc.toList.length = ks.length := by rw [Array.length_toList, it.1]; exact l1
    apply List.ext_getElem?
    intro j
    rw [List.getElem?_map]
    cases hj : acc.toList[j]? with
    | none =>
      have h1 := List.getElem?_eq_none_iff.mp hj
      rw [List.getElem?_eq_none (by omega)]
      all_goals rfl
    | some v =>
      obtain ⟨en, hen, hv⟩ := it.2 j v (by rw [← Array.getElem?_toList]; exact hj)
      have qe := entry_at he j
      rw [hen] at qe
      cases hb : ks[j]? with
      | none =>
        rw [hb] at qe
        exact nomatch (show some en = none from qe)
      | some b =>
        rw [hb] at qe
        have e2 : en = entryOfKey (tupleKind (mixKind X.prog X.w)) b := Option.some.inj qe
        rw [hv, e2]
        all_goals rfl
  have eL : acc.toList = L0.map fun q => Value.ref q.1 := by
    rw [ea, show (ks.map fun x => Value.ref x.2.1) = (ks.map fun x => x.2.1).map Value.ref by rw [List.map_map]; rfl, ← m2, List.map_map]
    rfl
  have hL0 : L0.length = ks0.length := by rw [← m1, List.length_map]
  have hvl : acc.toList.length < 64 := by rw [eL, List.length_map, hL0]; exact h64
  have I1 : Inv X pins σ H { s with heap := h', toks := tk } := I.kept kp
  refine wpAny_bind (wpAny_newList ?_ (by rw [sizeLine_eq]; omega))
  have hoL : (h'.push (seqObj "list" acc.toList.toArray 0)).get? h'.objs.size = some (seqObj "list" acc.toList.toArray 0) := Heap.get?_push_size _ rfl
  have tk1 : ∀ q ∈ L0, TS.TupInts (h'.push (seqObj "list" acc.toList.toArray 0)) (.ref q.1) q.2 := fun q hq => by
    have t := tupI_raw I1 (SqT.of (K := X.K) (m3 q hq))
    exact t.keeps fun b o e _ => Heap.get?_push_of_some _ e
  have x : TS.TupsOk (h'.push (seqObj "list" acc.toList.toArray 0)) d B acc.toList := fun v hv => by
    rw [eL] at hv
    obtain ⟨q, hq, e⟩ := List.mem_map.mp hv
    rw [← e]
    have hb := hB q.2 (by rw [← m1]; exact List.mem_map.mpr ⟨q, hq, rfl⟩)
    exact ⟨q.2, tk1 q hq, hb.1, hb.2⟩
  show wpAny _ _ _ _ _ { s with heap := h'.push (seqObj "list" acc.toList.toArray 0), toks := tk }
  refine wpAny_bind (wpAny_holding (TS.call_sort_tups (s := { s with heap := h'.push (seqObj "list" acc.toList.toArray 0), toks := tk }) hoL hvl hd1 x fun out a1 a2 => ?_))
  obtain ⟨c, hcc⟩ := sortedHeap_at (vs := acc.toList) (out := out) hoL
  -- the rows in the new order
  let g : Value → Addr × List Int := fun v => (match v with | .ref t => t | _ => 0, TS.intsOf (h'.push (seqObj "list" acc.toList.toArray 0)) v)
  have hg : ∀ q ∈ L0, g (.ref q.1) = q := fun q hq => by
    show (q.1, TS.intsOf (h'.push (seqObj "list" acc.toList.toArray 0)) (.ref q.1)) = q
    rw [(tk1 q hq).ints]
  have hgm : acc.toList.map g = L0 := by
    rw [eL, List.map_map]
    exact (List.map_congr_left fun q hq => hg q hq).trans (List.map_id' _)
  have pL : (out.toList.map g).Perm L0 := by
    rw [← hgm]
    exact a1.map g
  have refs : ∀ v ∈ out.toList, Value.ref (g v).1 = v := fun v hv => by
    have hv := a1.mem_iff.mp hv
    rw [eL] at hv
    obtain ⟨q, hq, rfl⟩ := List.mem_map.mp hv
    rw [hg q hq]
  have eo : out.toList = (out.toList.map g).map fun q => Value.ref q.1 := by
    rw [List.map_map]
    exact ((List.map_congr_left fun v hv => refs v hv).trans (List.map_id' _)).symm
  have pw : (out.toList.map g).Pairwise (fun q r => TS.code B q.2 ≤ TS.code B r.2) := by
    rw [List.pairwise_map]
    exact a2
  have hlen : ((out.toList.map g).map fun q => V.ref q.1).length ≤ sizeLine := by
    rw [List.length_map, pL.length_eq, hL0, sizeLine_eq]
    omega
  have hrv : Vals ((out.toList.map g).map fun q => V.ref q.1) out.toList := by
    have h := vals_refs ((out.toList.map g).map (·.1))
    have e1 : ((out.toList.map g).map (·.1)).map V.ref = (out.toList.map g).map fun q => V.ref q.1 := by rw [List.map_map]; rfl
    have e2 : ((out.toList.map g).map (·.1)).map Value.ref = out.toList := by
      rw [List.map_map]
      exact eo.symm
    exact Eq.mp (congr (congrArg Vals e1) e2) h
  refine wpAny_pure ⟨_, rfl, .ref h'.objs.size, upd H h'.objs.size (.lst ((out.toList.map g).map fun q => V.ref q.1)), I1.laid (t' := tk) (fun b u e => ?_) (Nat.le_refl _)
    (show ObjOk X.prog X.w _ _ _ (.lst ((out.toList.map g).map fun q => V.ref q.1)) from ⟨hlen, out.toList, c, hrv, by rw [Array.toArray_toList]; exact hcc⟩), rfl, q (out.toList.map g) _ ((pL.map (·.2)).trans (List.Perm.of_eq m1)) pw (fun r hr => m3 r (pL.mem_iff.mp hr)) (I1.hok.fresh (Nat.le_refl _))⟩
  have hb : b < h'.objs.size := Heap.lt_size e
  rw [PyProof.Rows.sortedHeap_old (Nat.ne_of_lt hb) (by rw [size_push']; exact Nat.lt_succ_of_lt hb)]
  exact Heap.get?_push_of_some _ e
/-! ### list.remove -/
theorem dB_inj {a b : List Int} (h : dB a = dB b) : a = b := by
  unfold dB at h
  have h := PyData.tuple.inj h
  exact (List.map_inj_right fun x y e => PyData.int.inj e).mp h
theorem eqv_ints : ∀ a b : List Int, PyData.eqvAll (a.map PyData.int) (b.map PyData.int) = decide (a = b)
  | [], [] => by simp [PyData.eqvAll]
  | [], _ :: _ => by simp [PyData.eqvAll]
  | _ :: _, [] => by simp [PyData.eqvAll]
  | x :: a, y :: b => by
    rw [List.map_cons, List.map_cons]
    simp only [PyData.eqvAll, PyData.eqv, eqv_ints a b]
    by_cases e : x = y
    · subst e
      simp
    · simp [e]
theorem dB_eqv (a b : List Int) : PyData.eqv (dB a) (dB b) = decide (a = b) := by
  unfold dB
  simp only [PyData.eqv, eqv_ints]
theorem place_dB {bs : List (List Int)} {b : List Int} (h : b ∈ bs) : PySem.SeqAt.dataPlace (bs.map dB) (dB b) = some (bs.idxOf b) := by
  unfold PySem.SeqAt.dataPlace
  have hl := List.idxOf_lt_length_of_mem h
  rw [List.findIdx?_eq_some_iff_getElem]
  refine ⟨by rw [List.length_map]; exact hl, ?_, fun j hj => ?_⟩
  · rw [List.getElem_map, dB_eqv, List.getElem_idxOf hl]
    simp
  · rw [List.getElem_map, dB_eqv]
    have := List.not_of_lt_findIdx (p := (· == b)) (xs := bs) (i := j) (by exact hj)
    simpa using this
def rRemB (K : PySem.W.Frag) : V → List V → Hp → VK → Prop := fun x xs H Q => ∃ (l : Addr) (vs : List V) (bs : List (List Int)) (y : V) (b : List Int), x = .ref l ∧ xs = [y] ∧ H l = some (.lst vs) ∧ DpAll K H vs (bs.map dB) ∧ Dp K H y (dB b) ∧ b ∈ bs ∧ Q .non (upd H l (.lst (vs.eraseIdx (bs.idxOf b))))
theorem mt_removeB {K : PySem.W.Frag} (hK : X.K = K) (hu : X.A.units + 65 < cLine) : MtR X "list.remove" (rRemB K) := by
  subst hK
  intro pins s σ H x xs v us Q I rx rxs h
  obtain ⟨l, vs, bs, y, b, rfl, rfl, hH, hd, hy, hm, q⟩ := h
  cases rx
  obtain ⟨u, rfl, ru⟩ := rxs.one
  obtain ⟨z, its, n, r, hl, e⟩ := I.lstM hH
  obtain ⟨as, r1⟩ := Dp.readsAll I _ vs its hd r
  obtain ⟨as2, r2⟩ := Dp.reads I _ y u hy ru
  have hsh : Sh 1 (dB b) := sh_dB b
  refine PySem.SeqAt.remove_list_data (j := bs.idxOf b) (vs := its.toArray) ⟨_, e, rfl, n, rfl⟩ (by simpa using r1) r2 ?_ (PyData.plain_of_canLay0 _ hsh.lay) ?_ (place_dB hm) (by rw [List.size_toArray]; omega) ?_
  · exact PyData.plainAll_of_canLay0 _ (lay_all fun d hd => by
      obtain ⟨c, _, rfl⟩ := List.mem_map.mp hd
      exact (sh_dB c).lay)
  · have := hsh.dep
    have := Nat.min_le_right (PyData.depthAll (bs.map dB)) (dB b).depth
    omega
  · refine ⟨.non, _, I.lset (its' := its.eraseIdx (bs.idxOf b)) (t' := s.toks) hH e ?_ (r.eraseIdx _) ?_, rfl, q⟩
    · show its.toArray.eraseIdxIfInBounds (bs.idxOf b) = (its.eraseIdx (bs.idxOf b)).toArray
      rw [List.eraseIdxIfInBounds_toArray]
    · have := List.length_eraseIdx_le vs (bs.idxOf b)
      omega
end
end W11
/-! The urn: ballots in the order of tuples, plain; its state. -/
namespace Wm
open PySem L2
theorem code_inj {B : Int} : ∀ {a b : List Int}, a.length = b.length → TS.Bd B a → TS.Bd B b → TS.code B a = TS.code B b → a = b
  | [], [], _, _, _, _ => rfl
  | [], _ :: _, h, _, _, _ => nomatch h
  | _ :: _, [], h, _, _, _ => nomatch h
  | x :: a, y :: b, h, h1, h2, e => by
    have hl : a.length = b.length := by simpa using h
    rcases Int.lt_trichotomy x y with c | c | c
    · have := TS.code_lt hl h1.tail h2.tail c
      omega
    · subst c
      have e : x * B ^ a.length + TS.code B a = x * B ^ b.length + TS.code B b := e
      rw [hl] at e
      rw [code_inj hl h1.tail h2.tail (by omega)]
    · have := TS.code_lt hl.symm h2.tail h1.tail c
      omega
def Good (n : Nat) (bs : List (List Int)) : Prop := ∀ b ∈ bs, b.length = n ∧ TS.Bd 100 b
def Srt (bs : List (List Int)) : Prop := bs.Pairwise fun a b => TS.code 100 a ≤ TS.code 100 b
theorem srt_uniq {n : Nat} {l m : List (List Int)} (h : l.Perm m) (g : Good n l) (h1 : Srt l) (h2 : Srt m) : l = m := by
  refine List.Perm.eq_of_pairwise (le := fun a b => TS.code 100 a ≤ TS.code 100 b) ?_ h1 h2 h
  intro a b ha hb c1 c2
  have g1 := g a ha
  have g2 := g b (h.mem_iff.mpr hb)
  exact code_inj (by omega) g1.2 g2.2 (Int.le_antisymm c1 c2)
theorem srt_ex : ∀ ks : List (List Int), ∃ S, S.Perm ks ∧ Srt S
  | [] => ⟨[], List.Perm.refl _, List.Pairwise.nil⟩
  | x :: ks => by
    obtain ⟨S, h1, h2⟩ := srt_ex ks
    refine ⟨S.filter (fun y => decide (TS.code 100 y ≤ TS.code 100 x)) ++ x :: S.filter (fun y => !decide (TS.code 100 y ≤ TS.code 100 x)), ?_, ?_⟩
    · refine List.perm_middle.trans (List.Perm.cons x ?_)
      exact (List.filter_append_perm _ S).trans h1
    · unfold Srt
      rw [List.pairwise_append]
      refine ⟨h2.filter _, List.pairwise_cons.mpr ⟨fun y hy => ?_, h2.filter _⟩, fun y hy z hz => ?_⟩
      · have := (List.mem_filter.mp hy).2
        simp at this
        omega
      · have hy := (List.mem_filter.mp hy).2
        simp at hy
        rcases List.mem_cons.mp hz with rfl | hz
        · exact hy
        · have hz := (List.mem_filter.mp hz).2
          simp at hz
          omega
/-- each so often as it counts -/
def flat (S : List (List Int)) (c : List Int → Int) : List (List Int) := S.flatMap fun b => List.replicate (c b).toNat b
theorem flat_srt {S : List (List Int)} {c : List Int → Int} (h : Srt S) : Srt (flat S c) := by
  induction S with
  | nil => exact List.Pairwise.nil
  | cons a S ih =>
    obtain ⟨h1, h2⟩ := List.pairwise_cons.mp h
    unfold Srt flat
    rw [List.flatMap_cons, List.pairwise_append]
    refine ⟨List.pairwise_replicate.mpr (.inr (Int.le_refl _)), ih h2, fun x hx y hy => ?_⟩
    obtain ⟨_, rfl⟩ := List.mem_replicate.mp hx
    obtain ⟨b, hb, hy⟩ := List.mem_flatMap.mp hy
    obtain ⟨_, rfl⟩ := List.mem_replicate.mp hy
    exact h1 _ hb
theorem flat_count {S : List (List Int)} {c : List Int → Int} (hn : S.Nodup) (x : List Int) : (flat S c).count x = if x ∈ S then (c x).toNat else 0 := by
  induction S with
  | nil => rfl
  | cons a S ih =>
    obtain ⟨h1, h2⟩ := List.nodup_cons.mp hn
    unfold flat at ih ⊢
    rw [List.flatMap_cons, List.count_append, ih h2, List.count_replicate]
    by_cases e : a = x
    · subst e
      simp [h1]
    · have e' : ¬ x = a := fun z => e z.symm
      simp [e, e']
theorem flat_perm {S left : List (List Int)} {c : List Int → Int} (hn : S.Nodup) (hm : ∀ b ∈ left, b ∈ S) (hc : ∀ b, c b = ((left.count b : Nat) : Int)) : (flat S c).Perm left := by
  rw [List.perm_iff_count]
  intro x
  rw [flat_count hn, hc]
  by_cases h : x ∈ S
  · rw [if_pos h]
    rfl
  · rw [if_neg h]
    exact (List.count_eq_zero.mpr fun z => h (hm x z)).symm
theorem lead_perm {l m : List (List Int)} (h : l.Perm m) (i j : Nat) : lead l i j = lead m i j := by
  unfold lead
  induction h with
  | nil => rfl
  | cons a _ ih => rw [List.map_cons, List.map_cons, List.sum_cons, List.sum_cons, ih]
  | swap a b l =>
    simp only [List.map_cons, List.sum_cons]
    omega
  | trans _ _ h1 h2 => exact h1.trans h2
theorem lead_app (bs : List (List Int)) (b : List Int) (i j : Nat) : lead (bs ++ [b]) i j = lead bs i j + sgnAt b i j := by
  unfold lead
  rw [List.map_append, List.sum_append]
  simp
theorem lead_erase {bs : List (List Int)} {b : List Int} (h : b ∈ bs) (i j : Nat) : lead (bs.erase b) i j = lead bs i j - sgnAt b i j := by
  have := lead_perm (List.perm_cons_erase h) i j
  unfold lead at this ⊢
  rw [List.map_cons, List.sum_cons] at this
  omega
theorem pl_bd {b : List Int} (h : Pl b) : TS.Bd 100 b := fun m hm => by
  have := h m hm
  omega
end Wm

namespace W11
open PySem PySem.Spec PyProof.Rows L2 Wd Wt Wx Wm Wg Wy Wz Wc Wq Wj Wi
/-! ### the dict of counts -/
def kb (b : List Int) : List Key := b.map Sum.inl
theorem kb_inj {a b : List Int} (h : kb a = kb b) : a = b := (List.map_inj_right fun x y e => Sum.inl.inj e).mp h
theorem kb_V (b : List Int) : (kb b).map kV = b.map V.int := by
  unfold kb
  rw [List.map_map]
  rfl
def kvsOf (ks : List (List Int)) (c : List Int → Int) : List (List Key × V) := ks.map fun b => (kb b, V.int (c b))
theorem val_kvs (ks : List (List Int)) (c : List Int → Int) (b : List Int) : valV (kvsOf ks c) (kb b) = if b ∈ ks then some (V.int (c b)) else none := by
  induction ks with
  | nil => rfl
  | cons a ks ih =>
    unfold kvsOf at ih ⊢
    rw [List.map_cons]
    by_cases e : a = b
    · subst e
      rw [valV_pos rfl, if_pos List.mem_cons_self]
    · rw [valV_neg (fun z => e (kb_inj z)), ih]
      have : (b ∈ a :: ks) ↔ b ∈ ks := by
        rw [List.mem_cons]
        exact ⟨fun h => h.resolve_left fun z => e z.symm, .inr⟩
      simp only [this]
def addK (ks : List (List Int)) (b : List Int) : List (List Int) := if b ∈ ks then ks else ks ++ [b]
def upC (c : List Int → Int) (b : List Int) (z : Int) : List Int → Int := fun x => if x = b then z else c x
theorem put_kvs {ks : List (List Int)} {c : List Int → Int} {b : List Int} {z : Int} : putK (kvsOf ks c) (kb b) (V.int z) = kvsOf (addK ks b) (upC c b z) := by
  by_cases h : b ∈ ks
  · unfold putK
    have hv := val_kvs ks c b
    rw [if_pos h] at hv
    rw [valV_any, hv]
    rw [if_pos (show (some (V.int (c b))).isSome = true from rfl)]
    unfold kvsOf addK
    rw [if_pos h, List.map_map]
    refine List.map_congr_left fun a ha => ?_
    show (if kb a = kb b then (kb a, V.int z) else (kb a, V.int (c a))) = (kb a, V.int (upC c b z a))
    unfold upC
    by_cases e : a = b
    · subst e
      rw [if_pos rfl, if_pos rfl]
    · rw [if_neg (fun y => e (kb_inj y)), if_neg e]
  · have hv := val_kvs ks c b
    rw [if_neg h] at hv
    rw [putK_new _ hv]
    unfold kvsOf addK
    rw [if_neg h, List.map_append]
    congr 1
    · refine List.map_congr_left fun a ha => ?_
      unfold upC
      rw [if_neg (fun e : a = b => h (e ▸ ha))]
    · show [(kb b, V.int z)] = [(kb b, V.int (upC c b z b))]
      unfold upC
      rw [if_pos rfl]
theorem addK_nd {ks : List (List Int)} {b : List Int} (h : ks.Nodup) : (addK ks b).Nodup := by
  unfold addK
  by_cases e : b ∈ ks
  · rw [if_pos e]
    exact h
  · rw [if_neg e, List.nodup_append]
    exact ⟨h, by simp, fun x hx y hy z => e (by rw [← List.mem_singleton.mp hy, ← z]; exact hx)⟩
theorem mem_addK {ks : List (List Int)} {b x : List Int} : x ∈ addK ks b ↔ x ∈ ks ∨ x = b := by
  unfold addK
  by_cases e : b ∈ ks
  · rw [if_pos e]
    exact ⟨.inl, fun h => h.elim id fun z => z ▸ e⟩
  · rw [if_neg e, List.mem_append, List.mem_singleton]
theorem len_addK (ks : List (List Int)) (b : List Int) : (addK ks b).length ≤ ks.length + 1 := by
  unfold addK
  split
  · omega
  · simp
/-! ### ballots as tuples that are tracked -/
def Tk (H : Hp) (v : V) (b : List Int) : Prop := ∃ a, v = .ref a ∧ H a = some (.tup (b.map V.int))
theorem Tk.rp {H : Hp} {v : V} {b : List Int} (h : Tk H v b) : Rp H v (dB b) := by
  obtain ⟨a, rfl, h⟩ := h
  exact .tup (.inl h) (RpA.ints b)
def TkA (H : Hp) (vs : List V) (bs : List (List Int)) : Prop := vs.length = bs.length ∧ ∀ (i : Nat) (v : V) (b : List Int), vs[i]? = some v → bs[i]? = some b → Tk H v b
def LTk (H : Hp) (p : Addr) (bs : List (List Int)) : Prop := ∃ vs, H p = some (.lst vs) ∧ TkA H vs bs
theorem TkA.rp {H : Hp} : ∀ {vs : List V} {bs : List (List Int)}, TkA H vs bs → RpA H vs (bs.map dB)
  | [], [], _ => .nil
  | [], _ :: _, h => nomatch h.1
  | _ :: _, [], h => nomatch h.1
  | v :: vs, b :: bs, h => .cons (h.2 0 v b rfl rfl).rp (TkA.rp ⟨by simpa using h.1, fun i x y hx hy => h.2 (i + 1) x y (by simpa using hx) (by simpa using hy)⟩)
theorem LTk.lat {H : Hp} {p : Addr} {bs : List (List Int)} (h : LTk H p bs) : LAt H p (bs.map dB) := by
  obtain ⟨vs, h1, h2⟩ := h
  exact ⟨vs, h1, h2.rp⟩
theorem TkA.nil {H : Hp} : TkA H [] [] := ⟨rfl, fun i v b h => by simp at h⟩
theorem TkA.app {H : Hp} {vs : List V} {bs : List (List Int)} {v : V} {b : List Int} (h : TkA H vs bs) (k : Tk H v b) : TkA H (vs ++ [v]) (bs ++ [b]) := by
  refine ⟨by rw [List.length_append, List.length_append, h.1]; rfl, fun i x y hx hy => ?_⟩
  have hl := h.1
  by_cases hi : i < vs.length
  · rw [List.getElem?_append_left hi] at hx
    rw [List.getElem?_append_left (by omega)] at hy
    exact h.2 i x y hx hy
  · rw [List.getElem?_append_right (by omega)] at hx
    rw [List.getElem?_append_right (by omega)] at hy
    have e : i - vs.length = 0 := by
      have := (List.getElem?_eq_some_iff.mp hx).1
      simp at this
      omega
    have e2 : i - bs.length = 0 := by omega
    rw [e] at hx
    rw [e2] at hy
    cases hx
    cases hy
    exact k
theorem TkA.cat {H : Hp} {vs ws : List V} {bs cs : List (List Int)} (h : TkA H vs bs) (k : TkA H ws cs) : TkA H (vs ++ ws) (bs ++ cs) := by
  refine ⟨by rw [List.length_append, List.length_append, h.1, k.1], fun i x y hx hy => ?_⟩
  have hl := h.1
  by_cases hi : i < vs.length
  · rw [List.getElem?_append_left hi] at hx
    rw [List.getElem?_append_left (by omega)] at hy
    exact h.2 i x y hx hy
  · rw [List.getElem?_append_right (by omega)] at hx
    rw [List.getElem?_append_right (by omega)] at hy
    rw [← hl] at hy
    exact k.2 _ x y hx hy
theorem TkA.take {H : Hp} {vs : List V} {bs : List (List Int)} (h : TkA H vs bs) (n : Nat) : TkA H (vs.take n) (bs.take n) := by
  refine ⟨by rw [List.length_take, List.length_take, h.1], fun i x y hx hy => ?_⟩
  rw [List.getElem?_take] at hx hy
  split at hx
  · rename_i hi
    rw [if_pos hi] at hy
    exact h.2 i x y hx hy
  · cases hx
theorem TkA.erase {H : Hp} {vs : List V} {bs : List (List Int)} (h : TkA H vs bs) (n : Nat) : TkA H (vs.eraseIdx n) (bs.eraseIdx n) := by
  have hl := h.1
  refine ⟨by rw [List.length_eraseIdx, List.length_eraseIdx, hl], fun i x y hx hy => ?_⟩
  rw [List.getElem?_eraseIdx] at hx hy
  split at hx
  · rename_i hi
    rw [if_pos hi] at hy
    exact h.2 i x y hx hy
  · rename_i hi
    rw [if_neg hi] at hy
    exact h.2 _ x y hx hy
section
variable [Tbl]
theorem Tk.ex {H H' : Hp} {v : V} {b : List Int} (h : Tk H v b) (e : Ex H H') : Tk H' v b := by
  obtain ⟨a, h1, h2⟩ := h
  exact ⟨a, h1, e.at h2⟩
theorem TkA.ex {H H' : Hp} {vs : List V} {bs : List (List Int)} (h : TkA H vs bs) (e : Ex H H') : TkA H' vs bs := ⟨h.1, fun i v b h1 h2 => (h.2 i v b h1 h2).ex e⟩
theorem LTk.ex {H H' : Hp} {p : Addr} {bs : List (List Int)} (h : LTk H p bs) (e : Ex H H') : LTk H' p bs := by
  obtain ⟨vs, h1, h2⟩ := h
  exact ⟨vs, e.at h1, h2.ex e⟩
end
/-! ### the urn -/
theorem n1 : ¬ (("many" : Str) = "counts") := by decide +kernel
theorem n2 : ¬ (("many" : Str) = "leads") := by decide +kernel
theorem n3 : ¬ (("counts" : Str) = "leads") := by decide +kernel
def flds (n : Nat) (d l : Addr) : List (Str × V) := putF "leads" (.ref l) (putF "counts" (.ref d) (putF "many" (.int (n : Int)) []))
theorem flds_many (n : Nat) (d l : Addr) : (flds n d l).lookup ("many" : Str) = some (.int (n : Int)) := by
  unfold flds
  rw [lookup_putF, if_neg n2, lookup_putF, if_neg n1, lookup_putF, if_pos rfl]
theorem flds_counts (n : Nat) (d l : Addr) : (flds n d l).lookup ("counts" : Str) = some (.ref d) := by
  unfold flds
  rw [lookup_putF, if_neg n3, lookup_putF, if_pos rfl]
theorem flds_leads (n : Nat) (d l : Addr) : (flds n d l).lookup ("leads" : Str) = some (.ref l) := by
  unfold flds
  rw [lookup_putF, if_pos rfl]
theorem flds_no (n : Nat) (d l : Addr) {m : Str} (h1 : ¬ m = "leads") (h2 : ¬ m = "counts") (h3 : ¬ m = "many") : (flds n d l).lookup m = none := by
  unfold flds
  rw [lookup_putF, if_neg h1, lookup_putF, if_neg h2, lookup_putF, if_neg h3]
  rfl
/-- an urn of class C at p: its keys ks, how often each counts, its leads; all of it new to H0 -/
structure Urn (H0 H : Hp) (C p d l : Addr) (n : Nat) (ks : List (List Int)) (c : List Int → Int) (M : Nat → Nat → Int) : Prop where
  ob : ∃ dx, H p = some (.ins C dx (flds n d l))
  dc : H d = some (.dT (kvsOf ks c))
  ma : MAt H0 H l n n M
  np : Nw H0 p
  nd : Nw H0 d
  nl : Nw H0 l
  dup : ks.Nodup
  out : ∀ b, b ∉ ks → c b = 0
  few : ks.length ≤ 50
/-- what is known of the class -/
structure UC (K : PySem.W.Frag) (mg : Str → Option Value) (C : Addr) : Prop where
  cl : Cls K C
  nM : NoAttr K C "many"
  nC : NoAttr K C "counts"
  nL : NoAttr K C "leads"
section
variable [Tbl] {K : PySem.W.Frag} {mg : Str → Option Value} {σ : L2.St} {H H' H0 : Hp} {ta tb tc te tl tx td ty : TE} {t : TT} {v : V} {dd : PyData} {ds es : List PyData} {D : Ends} {tu tw tz : TS} {C p d l : Addr} {n m : Nat} {ks : List (List Int)} {c : List Int → Int} {M : Nat → Nat → Int} {b : List Int}
theorem Urn.ex (h : Urn H0 H C p d l n ks c M) (e : Ex H H') : Urn H0 H' C p d l n ks c M := by
  obtain ⟨⟨dx, h1⟩, h2, h3, h4, h5, h6, h7, h8, h9⟩ := h
  exact ⟨⟨dx, e.at h1⟩, e.at h2, h3.ex e, h4, h5, h6, h7, h8, h9⟩
theorem Urn.old {H1 : Hp} (h : Urn H0 H C p d l n ks c M) (e : Ex H1 H0) : Urn H1 H C p d l n ks c M := by
  obtain ⟨h1, h2, ⟨ps, m1, m2, m3, m4, m5, m6⟩, h4, h5, h6, h7, h8, h9⟩ := h
  exact ⟨h1, h2, ⟨ps, m1, m2, m3, m4, fun q hq => e.back (m5 q hq), m6⟩, e.back h4, e.back h5, e.back h6, h7, h8, h9⟩
/-- o.f of an urn -/
theorem ev_fld {f : Str} {dx : Addr} {fs : List (Str × V)} (ho : Ev ta σ H (.ref p)) (h : H p = some (.ins C dx fs)) (cl : Cls K C) (na : NoAttr K C f) (hl : fs.lookup f = some v) : Ev (tFld K ta f) σ H v := fun H1 x Q q =>
  ho H1 x _ fun H2 x2 => ⟨p, C, dx, fs, v, rfl, (x.trans x2).at h, cl, na, hl, q H2 x2⟩
theorem ev_leads (U : UC K mg C) (ho : Ev ta σ H (.ref p)) (h : Urn H0 H C p d l n ks c M) : Ev (tFld K ta "leads") σ H (.ref l) := by
  obtain ⟨dx, h1⟩ := h.ob
  exact ev_fld ho h1 U.cl U.nL (flds_leads n d l)
theorem ev_counts (U : UC K mg C) (ho : Ev ta σ H (.ref p)) (h : Urn H0 H C p d l n ks c M) : Ev (tFld K ta "counts") σ H (.ref d) := by
  obtain ⟨dx, h1⟩ := h.ob
  exact ev_fld ho h1 U.cl U.nC (flds_counts n d l)
theorem ed_many (U : UC K mg C) (ho : Ev ta σ H (.ref p)) (h : Urn H0 H C p d l n ks c M) : ED (tFld K ta "many") σ H (.int (n : Int)) := by
  obtain ⟨dx, h1⟩ := h.ob
  exact ed_ev (ev_fld ho h1 U.cl U.nM (flds_many n d l)) (.int _)
/-- m[i][j], m by any words -/
theorem ed_mgetE {i j : Nat} {ti tj : TE} (hx : Ev tx σ H (.ref l)) (hp : MAt H0 H l m n M) (hi : ED ti σ H (.int (i : Int))) (hj : ED tj σ H (.int (j : Int))) (him : i < m) (hjn : j < n) : ED (tOp (rIxL K) (tOp (rIxL K) tx ti) tj) σ H (.int (M i j)) := fun H1 x1 Q q =>
  hx H1 x1 _ fun H0' x0 => hi H0' (x1.trans x0) _ fun v H2 x2 r => by
    obtain ⟨ps, h1, h2, h3, h4, h5, h6⟩ := hp.ex ((x1.trans x0).trans x2)
    have hq : ps[i]? = some ps[i] := List.getElem?_eq_getElem (by omega)
    refine ⟨l, _, (i : Int), .ref ps[i], rfl, r.intE, SqL.of h1, atI_nat (by rw [List.getElem?_map, hq]; rfl), ?_⟩
    refine hj H2 ((x1.trans x0).trans x2) _ fun w H3 x3 s => ?_
    exact ⟨ps[i], _, (j : Int), .int (M i j), rfl, s.intE, SqL.of (x3.at (h6 i _ hq)), atI_nat (by simp [hjn]), q _ H3 ((x0.trans x2).trans x3) (.int _)⟩
/-- m[i][j] = v, m by any words -/
theorem sd_msetE {i j : Nat} {z : Int} {tv ti tj : TE} (e0 : Ex H0 H) (hs : ∀ H1, Ex H H1 → Ev tx σ H1 (.ref l)) (hp : MAt H0 H l m n M) (hv : ED tv σ H (.int z)) (hi : ∀ H1, Ex H H1 → ED ti σ H1 (.int (i : Int))) (hj : ∀ H1, Ex H H1 → ED tj σ H1 (.int (j : Int))) (him : i < m) (hjn : j < n)
    (k : ∀ H2, Ex H0 H2 → MAt H0 H2 l m n (put2 M i j z) → Tx H H2 → (∀ (a : Addr) (o : HO), H a = some o → NoB o → (∀ xs, o ≠ .lst xs) → H2 a = some o) → D.nx σ H2) : tAsg tv (gSub (tOp (rIxL K) tx ti) tj rSetL) D σ H := hv H (.refl H) _ fun v H1 x1 r => hs H1 x1 H1 (.refl _) _ fun H1' x1' => hi H1' (x1.trans x1') H1' (.refl _) _ fun v2 H2 x2 r2 => by
  have x12 := (x1.trans x1').trans x2
  obtain ⟨ps, h1, h2, h3, h4, h5, h6⟩ := hp.ex x12
  have hq : ps[i]? = some ps[i] := List.getElem?_eq_getElem (by omega)
  refine ⟨l, _, (i : Int), .ref ps[i], rfl, r2.intE, SqL.of h1, atI_nat (by rw [List.getElem?_map, hq]; rfl), ?_⟩
  refine hj H2 x12 H2 (.refl _) _ fun w H3 x3 s => ?_
  have h6' : ∀ a q, ps[a]? = some q → H3 q = some (.lst ((List.range n).map fun j => V.int (M a j))) := fun a q hq => x3.at (h6 a q hq)
  have hro := h6' i _ hq
  refine ⟨ps[i], _, (j : Int), j, rfl, s.intE, hro, ?_, ?_⟩
  · have : ((List.range n).map fun j => V.int (M i j)).length = n := by simp
    rw [this]
    unfold ixN
    rw [if_pos (by omega), if_pos (by omega)]
    simp
  · rw [r.intE, row_set hjn]
    have x13 := x12.trans x3
    have np : l ≠ ps[i] := fun z => h4 (z ▸ List.getElem_mem _)
    refine k _ (Ex.mut (e0.trans x13) (h5 _ (List.getElem_mem _)) hro) ⟨ps, by rw [upd_ne np]; exact x3.at h1, h2, h3, h4, h5, fun a q ha => ?_⟩ ((Tx.of x13).trans (Tx.upd hro True.intro)) fun a o ha nb nl => ?_
    · by_cases ea : a = i
      · subst ea
        rw [hq] at ha
        cases ha
        rw [upd_same]
        refine congrArg (fun l => some (HO.lst l)) (List.map_congr_left fun b _ => ?_)
        unfold put2
        by_cases eb : b = j
        · simp [eb]
        · simp [eb]
      · have nq : q ≠ ps[i] := fun z => by
          have e1 := List.getElem?_eq_some_iff.mp ha
          obtain ⟨l1, e1⟩ := e1
          rw [← e1] at z
          exact ea ((List.getElem_inj h3).mp z)
        rw [upd_ne nq, h6' a q ha]
        refine congrArg (fun l => some (HO.lst l)) (List.map_congr_left fun b _ => ?_)
        unfold put2
        simp [ea]
    · have : a ≠ ps[i] := fun z => by
        have h := x13.at ha nb
        rw [z, hro] at h
        exact nl _ (Option.some.inj h).symm
      rw [upd_ne this]
      exact x13.at ha nb
/-- counts.get(b, 0) -/
theorem ed_cget {i : Nat} (U : UC K mg C) (h : Urn H0 H C p d l n ks c M) (hp : Ev ta σ H (.ref p)) (hs : σ[i]? = some (some v)) (hb : Tk H v b) : ED (tDGet2 (tFld K ta "counts") (tVar i) (tC (.int 0))) σ H (.int (c b)) := fun H1 x Q q =>
  ev_counts U hp h H1 x _ fun H2 x2 => by
    have h2 := h.ex (x.trans x2)
    obtain ⟨a, rfl, ha⟩ := hb.ex (x.trans x2)
    refine ⟨d, rfl, .inr ⟨_, .inl h2.dc⟩, _, hs, _, DGet.t (k := kb b) h2.dc (by rw [kb_V]; exact ha), ?_⟩
    rw [val_kvs]
    by_cases e : b ∈ ks
    · rw [if_pos e]
      exact q _ H2 x2 (.int _)
    · rw [if_neg e]
      rw [h.out b e] at q
      exact q _ H2 x2 (.int _)
/-- counts[b] -/
theorem ed_cat {i : Nat} (U : UC K mg C) (h : Urn H0 H C p d l n ks c M) (hp : Ev ta σ H (.ref p)) (hs : σ[i]? = some (some v)) (hb : Tk H v b) (hk : b ∈ ks) : ED (tDGet (tFld K ta "counts") (tVar i)) σ H (.int (c b)) := fun H1 x Q q =>
  ev_counts U hp h H1 x _ fun H2 x2 => by
    have h2 := h.ex (x.trans x2)
    obtain ⟨a, rfl, ha⟩ := hb.ex (x.trans x2)
    refine ⟨_, hs, d, .int (c b), rfl, ?_, q _ H2 x2 (.int _)⟩
    have g := DGet.t (k := kb b) h2.dc (by rw [kb_V]; exact ha)
    rw [val_kvs, if_pos hk] at g
    exact g
/-- counts[b] = z -/
theorem qd_cput {i : Nat} {z : Int} (U : UC K mg C) (e0 : Ex H0 H) (h : Urn H0 H C p d l n ks c M) (h5 : ks.length < 50) (hp : ∀ H1, Ex H H1 → Ev ta σ H1 (.ref p)) (hs : σ[i]? = some (some v)) (hb : Tk H v b) (hv : ED te σ H (.int z))
    (k : ∀ H2, Ex H0 H2 → Urn H0 H2 C p d l n (addK ks b) (upC c b z) M → Tx H H2 → tz D σ H2) : tSeq (sDPut (tFld K ta "counts") (tVar i) te) tz D σ H := hv H (.refl H) _ fun w H1 x1 r => by
  refine ev_counts U (hp H1 x1) (h.ex x1) H1 (.refl _) _ fun H2 x2 => ?_
  have x12 := x1.trans x2
  have h2 := h.ex x12
  obtain ⟨a, rfl, ha⟩ := hb.ex x12
  refine ⟨_, hs, d, _, rfl, .inr ⟨_, kb b, a, h2.dc, rfl, by rw [kb_V]; exact ha, ?_, rfl⟩, ?_⟩
  · unfold kvsOf
    rw [List.length_map, sizeLine_eq]
    omega
  · rw [r.intE, put_kvs]
    have npd : p ≠ d := fun e => by
      obtain ⟨dx, ho⟩ := h2.ob
      rw [e, h2.dc] at ho
      cases ho
    obtain ⟨⟨dx, ho⟩, hd, ⟨ps, m1, m2, m3, m4, m5, m6⟩, g4, g5, g6, g7, g8, g9⟩ := h2
    have nld : l ≠ d := fun e => by
      rw [e, hd] at m1
      cases m1
    refine k _ (Ex.mut (e0.trans x12) g5 hd) ⟨⟨dx, by rw [upd_ne npd]; exact ho⟩, upd_same, ⟨ps, by rw [upd_ne nld]; exact m1, m2, m3, m4, m5, fun i q hq => ?_⟩, g4, g5, g6, addK_nd g7, fun x hx => ?_, by have := len_addK ks b; omega⟩ ((Tx.of x12).trans (Tx.upd hd True.intro))
    · have : q ≠ d := fun e => by
        have := m6 i q hq
        rw [e, hd] at this
        cases this
      rw [upd_ne this]
      exact m6 i q hq
    · have hx' : ¬ (x ∈ ks ∨ x = b) := fun z => hx (mem_addK.mpr z)
      unfold upC
      rw [if_neg (fun e => hx' (.inr e))]
      exact g8 x fun e => hx' (.inl e)
end
end W11
/-! The urn: methods, promises. -/
namespace W11
open PySem PySem.Spec PyProof.Rows L2 Wd Wt Wx Wm Wg Wy Wz Wc Wq Wj Wi
structure MetAt (K : PySem.W.Frag) (C : Addr) (m qual : Str) (st : Stmt) (ps : List Str) : Prop where
  ex : ∃ (f : Addr) (fd : FuncData), L2.Fun K m qual st f fd ∧ Meth K C m f ∧ Binds K fd ps []
structure MkAt (K : PySem.W.Frag) (mg : Str → Option Value) (C : Addr) (x qual : Str) (st : Stmt) (ps : List Str) : Prop where
  ex : ∃ (f : Addr) (fd : FuncData), L2.Fun K "__init__" qual st f fd ∧ Mk K C f ∧ mg x = some (.ref C) ∧ Binds K fd ps []
/-- a method that may raise -/
structure MetX (P : Program) (w : World) (K : PySem.W.Frag) (mg : Str → Option Value) (base : Heap) (k : Nat) (C : Addr) (m : Str) (sp : Sp) : Prop where
  ex : ∃ (f : Addr) (fd : FuncData) (ps : List Str), Cls K C ∧ Meth K C m f ∧ FnOk P w K mg base (L2.CX P w) k f fd ps sp ∧ Binds K fd ps []
section
variable {P : Program} {w : World} {K : PySem.W.Frag} {mg : Str → Option Value} {base : Heap} {C : Addr}
theorem met_ok {m qual : Str} {st : Stmt} {N ps : List Str} {k : Nat} {sp : Sp} (cl : Cls K C) (F : MetAt K C m qual st ps) (S : FnScope N ps (defScope st)) (len : ∀ vs H Q E, sp vs H Q E → vs.length = ps.length)
    (hbody : ∀ (f : Addr) (cdv : Value) (A : Around) (outer : List Env) (s : Shared) (H : Hp) (vs : List V) (Q : VK) (E : XK), Room k (A.deeper (envOfC qual (defScope st) s.heap.objs.size f cdv)) → sp vs H Q E →
      ∃ t, PSs (cxOf L2.CX0 P w K mg base N qual (defScope st) f cdv A outer s H E).nox (defBody st) t ∧ t { nx := fun _ H' => Q .non H', rt := Q } (start N vs) H) : C8.Met P w K mg base (k + 1) C m sp [] := by
  obtain ⟨f, fd, G, me, b⟩ := F.ex
  exact ⟨f, fd, ps, [], cl, me, G.ok S len fun cdv A outer s H vs Q E hr h => hbody f cdv A outer s H vs Q E hr h, b, .nil⟩
theorem mak_ok {x qual : Str} {st : Stmt} {N ps : List Str} {k : Nat} {sp : Sp} (F : MkAt K mg C x qual st ps) (S : FnScope N ps (defScope st)) (len : ∀ vs H Q E, sp vs H Q E → vs.length = ps.length)
    (hbody : ∀ (f : Addr) (cdv : Value) (A : Around) (outer : List Env) (s : Shared) (H : Hp) (vs : List V) (Q : VK) (E : XK), Room k (A.deeper (envOfC qual (defScope st) s.heap.objs.size f cdv)) → sp vs H Q E →
      ∃ t, PSs (cxOf L2.CX0 P w K mg base N qual (defScope st) f cdv A outer s H E).nox (defBody st) t ∧ t { nx := fun _ H' => Q .non H', rt := Q } (start N vs) H) : C8.Mak P w K mg base (k + 1) x C sp [] := by
  obtain ⟨f, fd, G, M, hm, b⟩ := F.ex
  exact ⟨f, fd, ps, [], M, G.ok S len fun cdv A outer s H vs Q E hr h => hbody f cdv A outer s H vs Q E hr h, hm, b, .nil⟩
theorem metX_ok {m qual : Str} {st : Stmt} {N ps : List Str} {k : Nat} {sp : Sp} (cl : Cls K C) (F : MetAt K C m qual st ps) (S : FnScope N ps (defScope st)) (len : ∀ vs H Q E, sp vs H Q E → vs.length = ps.length)
    (hbody : ∀ (f : Addr) (cdv : Value) (A : Around) (outer : List Env) (s : Shared) (H : Hp) (vs : List V) (Q : VK) (E : XK), Room k (A.deeper (envOfC qual (defScope st) s.heap.objs.size f cdv)) → sp vs H Q E →
      ∃ t, PSs (cxOf (L2.CX P w) P w K mg base N qual (defScope st) f cdv A outer s H E) (defBody st) t ∧ t { nx := fun _ H' => Q .non H', rt := Q } (start N vs) H) : MetX P w K mg base (k + 1) C m sp := by
  obtain ⟨f, fd, G, me, b⟩ := F.ex
  exact ⟨f, fd, ps, cl, me, G.okX S len fun cdv A outer s H vs Q E hr h => hbody f cdv A outer s H vs Q E hr h, b⟩
end
def tMethX (C : Addr) (m : Str) (sp : Sp) (E : L2.St → XK) (ta : TE) (t : TA) : TE := fun σ H Q => ta σ H fun x H1 => ∃ a dx fs, x = .ref a ∧ H1 a = some (.ins C dx fs) ∧ fs.lookup m = none ∧ t σ H1 fun vs H2 => sp (x :: vs) H2 Q (E σ)
theorem pe_mtX {X : Cx} {k j : Nat} {C : Addr} {m : Str} {sp : Sp} {W : WX} {apos pos : Pos} {o e : Expr} {es : List Expr} {ta : TE} {t : TA} {pl : Sem Bool} (c : MetX X.prog X.w X.K X.mg X.base k C m sp) (tk : Takes X W) (hr : Room j X.A) (hk : k ≤ j) (he : PE X o ta) (ha : PA X (e :: es) t)
    (hst : starEach (e :: es) X.env = (false, eval e X.env) :: starEach es X.env := by rfl) (hpl : (backTo pos (starEach es X.env)).any (·.1) = false := by rfl)
    (ht : eval (.Call (.Attribute o m apos) (e :: es) [] pos) X.env = (do
      let ov ← eval o X.env
      standAt apos.atName
      let (f, first) ← holding [ov] (getMethod ov m pl)
      callWith pos f first (backTo pos (starEach (e :: es) X.env)) (backToKw pos (keywordEach [] X.env))) := by rfl) :
    PE X (.Call (.Attribute o m apos) (e :: es) [] pos) (tMethX C m sp (WE W) ta t) := by
  obtain ⟨f, fd, ps, hc, hm, F, b⟩ := c.ex
  refine ⟨fun pins s σ H Q I h => ?_⟩
  refine PySem.W.methodCall_KW (pl := pl) (thn (he.run pins s σ H _ I h) fun u s1 ⟨x, H1, I1, rx, a, dx, fs, ex, ea, l, q⟩ => ?_) ht
  subst ex
  obtain rfl : u = Value.ref a := rx
  refine getmeth_ok I1 ea hc hm l ?_
  refine PySem.W.callWith_K (first := [.ref a]) (h₀ := X.base) I.ok.mod.kin hm.kp (thn (ha.run pos pins s1 σ H1 _ I1 q) fun us s2 ⟨vs, H2, I2, r, q2⟩ => ⟨I2.kIn, ?_⟩) hst hpl
  exact run_fnS (us := .ref a :: us) (vs := .ref a :: vs) F (hr.mono hk) b (passAt tk σ) I2 (.cons rfl r) q2
/-! ### sorted, told -/
theorem sortTK {X : Cx} {K : PySem.W.Frag} {d : Nat} {B : Int} (hK : X.K = K) (hd : 1 ≤ d) : CallR X (.builtin "sorted") (rSortU K d B) := by
  subst hK
  exact cr_sortT hd
section
variable [Tbl] {K : PySem.W.Frag} {mg : Str → Option Value} {σ : L2.St} {H H' H0 : Hp} {ta tb tc te tl tx td ty : TE} {t : TT} {v : V} {dd : PyData} {ds es : List PyData} {D : Ends} {tu tw tz : TS} {C p d l : Addr} {n m : Nat} {ks : List (List Int)} {c : List Int → Int} {M : Nat → Nat → Int} {b : List Int}
/-- the ballot that stands at v -/
def ballotAt (H : Hp) : V → List Int
  | .ref a => match H a with
    | some (.tup xs) => xs.map fun x => match x with | .int i => i | _ => 0
    | _ => []
  | _ => []
theorem ballotAt_of (h : Tk H v b) : ballotAt H v = b := by
  obtain ⟨a, rfl, h⟩ := h
  show (match H a with | some (.tup xs) => xs.map (fun x => match x with | .int i => i | _ => 0) | _ => []) = b
  rw [h]
  show (b.map V.int).map _ = b
  rw [List.map_map]
  exact (List.map_congr_left fun x _ => rfl).trans (List.map_id' b)
theorem tkA_map : ∀ {vs : List V} {bs : List (List Int)}, TkA H vs bs → vs.map (ballotAt H) = bs ∧ ∀ x ∈ vs, Tk H x (ballotAt H x)
  | [], [], _ => ⟨rfl, fun x hx => nomatch hx⟩
  | [], _ :: _, h => nomatch h.1
  | _ :: _, [], h => nomatch h.1
  | v :: vs, b :: bs, h => by
    obtain ⟨i1, i2⟩ := tkA_map (vs := vs) (bs := bs) ⟨by simpa using h.1, fun i x y hx hy => h.2 (i + 1) x y (by simpa using hx) (by simpa using hy)⟩
    have h0 := h.2 0 v b rfl rfl
    refine ⟨by rw [List.map_cons, i1, ballotAt_of h0], fun x hx => ?_⟩
    rcases List.mem_cons.mp hx with rfl | hx
    · rw [ballotAt_of h0]
      exact h0
    · exact i2 x hx
theorem rp_of_map : ∀ {ys : List V}, (∀ x ∈ ys, Tk H x (ballotAt H x)) → RpA H ys ((ys.map (ballotAt H)).map dB)
  | [], _ => .nil
  | y :: ys, h => .cons (h y List.mem_cons_self).rp (rp_of_map fun x hx => h x (List.mem_cons_of_mem _ hx))
/-- sorted(l), l a list of ballots -/
theorem el_sortT {q : Addr} {left T : List (List Int)} (hl : Ev te σ H (.ref q)) (h : LTk H q left) (hz : left.length < 64) (g : Good n left) (hT : T.Perm left) (hs : Srt T) : EL (tCB (rSortU K n 100) (tCons te tNil)) σ H (T.map dB) :=
  el_cbV hl fun H1 x Q k => by
    obtain ⟨vs, h1, h2⟩ := h.ex x
    obtain ⟨m1, m2⟩ := tkA_map h2
    refine ⟨q, vs, rfl, SqL.of h1, by rw [h2.1]; exact hz, fun y hy => ?_, fun ys p pm pw hp => ?_⟩
    · have hm : ballotAt H1 y ∈ left := by rw [← m1]; exact List.mem_map.mpr ⟨y, hy, rfl⟩
      obtain ⟨a, e, ha⟩ := m2 y hy
      exact ⟨_, ⟨a, e, SqT.of ha⟩, (g _ hm).1, (g _ hm).2⟩
    · have my : ∀ x ∈ ys, Tk H1 x (ballotAt H1 x) := fun x hx => m2 x (pm.mem_iff.mp hx)
      have e : ys.map (ballotAt H1) = T := by
        have p1 : (ys.map (ballotAt H1)).Perm left := by
          rw [← m1]
          exact pm.map _
        refine srt_uniq (n := n) (p1.trans hT.symm) (fun b hb => g b (p1.mem_iff.mp hb)) ?_ hs
        unfold Srt
        rw [List.pairwise_map]
        refine List.Pairwise.imp_of_mem (fun {x y} hx hy h => ?_) pw
        obtain ⟨a, ea, ha⟩ := my x hx
        obtain ⟨a', ea', ha'⟩ := my y hy
        exact h _ _ ⟨a, ea, SqT.of ha⟩ ⟨a', ea', SqT.of ha'⟩
      refine k p _ (.of hp) (Ex.new hp) ⟨ys, upd_same, ?_⟩
      have r := rp_of_map my
      rw [e] at r
      exact r.up (Tx.new hp)
/-- [a new list for x in range(m)] -/
theorem em_lcR {ta : TA} {j : Nat} {vs : List Nat} (M : Nat → Nat → Int) (h : EA ta σ H [.int (m : Int)]) (hm : m ≤ 40000) (hw : ∀ x, wipe ((wipe σ vs).set j (some x)) vs = wipe σ vs)
    (hg : ∀ (i : Nat) H1, Ex H H1 → i < m → EL te ((wipe σ vs).set j (some (.int (i : Int)))) H1 ((List.range n).map fun j => PyData.int (M i j))) :
    W7.EM (tLc (iRng1 ta) (gName j) tYes te vs) σ H m n M := fun H0 x0 Q q => h H0 x0 _ fun us H1 x1 r => by
  obtain ⟨v, rfl, r0⟩ := r.e1
  refine ⟨m, by rw [r0.intE], by omega, by omega, fun Dl hD => ?_⟩
  refine lc_range (lo := 0) (n := (m : Int).toNat) (fun i H' => Nw H1 Dl ∧ Ex H1 H' ∧ MAt H1 H' Dl i n M) ⟨.of hD, Ex.new hD, MAt.nil ⟨[], upd_same, .nil⟩⟩ (fun i H' hi c => ?_) (fun H' c => ?_)
  · have e0 : (0 : Int) + (i : Int) = (i : Int) := Int.zero_add _
    have hin : i < m := by simpa using hi
    show wipe ((wipe σ vs).set j (some (.int ((0 : Int) + (i : Int))))) vs = wipe σ vs ∧ tYes ((wipe σ vs).set j (some (.int ((0 : Int) + (i : Int))))) H' _
    rw [e0]
    refine ⟨hw _, ?_⟩
    unfold tYes
    refine iteT ?_
    obtain ⟨c1, c2, c3⟩ := c
    refine hg i H1 (x0.trans x1) hin H' c2 _ fun p H2 hp x2 hL => ?_
    exact W7.mat_add x2 c1 c2 c3 hp hL (by omega)
  · rw [Int.toNat_natCast] at c
    obtain ⟨c1, c2, ps, h1, h2, h3, h4, h5, h6⟩ := c
    exact q Dl H' (fresh_back x1 c1) (x1.trans c2) ⟨ps, h1, h2, h3, h4, fun q hq => x1.back (h5 q hq), h6⟩
/-! ### promises -/
def spInit (C : Addr) : Sp := fun vs H Q _ => ∃ (H0 : Hp) (p dx : Addr) (n : Nat), vs = [.ref p, .int (n : Int)] ∧ H p = some (.ins C dx []) ∧ Ex H0 H ∧ Nw H0 p ∧ 1 ≤ n ∧ n ≤ 20 ∧
  ∀ H' d l, Ex H0 H' → Urn H0 H' C p d l n [] (fun _ => 0) (fun _ _ => 0) → Q .non H'
def addM (M : Nat → Nat → Int) (y : Int) (b : List Int) : Nat → Nat → Int := fun i j => M i j + y * sgnAt b i j
def spAdd (C : Addr) : Sp := fun vs H Q _ => ∃ (H0 : Hp) (p d l : Addr) (n : Nat) (ks : List (List Int)) (c : List Int → Int) (M : Nat → Nat → Int) (v : V) (b : List Int) (y : Int), vs = [.ref p, v, .int y] ∧ Tk H v b ∧ b.length = n ∧ n ≤ 20 ∧ -1000 ≤ y ∧ y ≤ 1000 ∧
  Ex H0 H ∧ Urn H0 H C p d l n ks c M ∧ ks.length < 50 ∧ ∀ H', Ex H0 H' → Urn H0 H' C p d l n (addK ks b) (upC c b (c b + y)) (addM M y b) → Q .non H'
def spPut (C : Addr) : Sp := fun vs H Q _ => ∃ (H0 : Hp) (p d l : Addr) (n : Nat) (ks : List (List Int)) (c : List Int → Int) (M : Nat → Nat → Int) (v : V) (b : List Int), vs = [.ref p, v] ∧ Tk H v b ∧ b.length = n ∧ n ≤ 20 ∧
  Ex H0 H ∧ Urn H0 H C p d l n ks c M ∧ ks.length < 50 ∧ ∀ H', Ex H0 H' → Urn H0 H' C p d l n (addK ks b) (upC c b (c b + 1)) (addM M 1 b) → Q .non H'
def spTakeX (C N : Addr) : Sp := fun vs H Q E => ∃ (H0 : Hp) (p d l : Addr) (n : Nat) (ks : List (List Int)) (c : List Int → Int) (M : Nat → Nat → Int) (v : V) (b : List Int), vs = [.ref p, v] ∧ Tk H v b ∧ b.length = n ∧ n ≤ 20 ∧
  Ex H0 H ∧ Urn H0 H C p d l n ks c M ∧ ks.length < 50 ∧ ((c b = 0 ∧ ∀ H', Ex H H' → E (.ref N) none H') ∨ (c b ≠ 0 ∧ ∀ H', Ex H0 H' → Urn H0 H' C p d l n (addK ks b) (upC c b (c b + -1)) (addM M (-1) b) → Q .non H'))
def spTaken (C : Addr) : Sp := fun vs H Q _ => ∃ (H0 : Hp) (p d l : Addr) (n : Nat) (ks : List (List Int)) (c : List Int → Int) (M : Nat → Nat → Int) (v : V) (b : List Int), vs = [.ref p, v] ∧ Tk H v b ∧ b.length = n ∧ n ≤ 20 ∧
  Ex H0 H ∧ Urn H0 H C p d l n ks c M ∧ ks.length < 50 ∧ ((c b = 0 ∧ ∀ H', Ex H H' → Q (.str "no ballot") H') ∨ (c b ≠ 0 ∧ ∀ H', Ex H0 H' → Urn H0 H' C p d l n (addK ks b) (upC c b (c b + -1)) (addM M (-1) b) → Q .non H'))
def spCounted (C : Addr) : Sp := fun vs H Q _ => ∃ (H0 : Hp) (p d l : Addr) (n : Nat) (ks : List (List Int)) (c : List Int → Int) (M : Nat → Nat → Int), vs = [.ref p] ∧ Urn H0 H C p d l n ks c M ∧ n ≤ 20 ∧ ∀ v H', Ex H H' → Rp H' v (dLs n M) → Q v H'
def spUbox (C : Addr) : Sp := fun vs H Q _ => ∃ (H0 : Hp) (p d l : Addr) (n : Nat) (ks : List (List Int)) (c : List Int → Int) (M : Nat → Nat → Int) (S : List (List Int)), vs = [.ref p] ∧ Urn H0 H C p d l n ks c M ∧ n ≤ 20 ∧ 1 ≤ n ∧ Good n ks ∧ S.Perm ks ∧ Srt S ∧ (∀ b, 0 ≤ c b ∧ c b ≤ 100) ∧
  ∀ v H', Ex H H' → Rp H' v (dBox n (flat S c)) → Q v H'
def spRight (C : Addr) : Sp := fun vs H Q _ => ∃ (H0 : Hp) (p d l : Addr) (n : Nat) (ks : List (List Int)) (c : List Int → Int) (M : Nat → Nat → Int) (q : Addr) (left : List (List Int)), vs = [.ref p, .int (n : Int), .ref q] ∧ Urn H0 H C p d l n ks c M ∧ LTk H q left ∧ 1 ≤ n ∧ n ≤ 20 ∧
  Good n left ∧ Good n ks ∧ left.length ≤ 40 ∧ (∀ b ∈ left, b ∈ ks) ∧ (∀ b, c b = ((left.count b : Nat) : Int)) ∧ (∀ i j, i < n → j < n → M i j = lead left i j) ∧ ∀ H', Ex H H' → Q (.bl true) H'
theorem ed_counted {E : XK} (ho : Ev ta σ H (.ref p)) (h : Urn H0 H C p d l n ks c M) (hn : n ≤ 20) : ED (tMeth C "counted" (spCounted C) [] E ta tNil) σ H (dLs n M) := fun H1 x Q q => ho H1 x _ fun H2 x2 => by
  have h2 := h.ex (x.trans x2)
  obtain ⟨dx, h3⟩ := h2.ob
  exact ⟨p, dx, _, rfl, h3, flds_no n d l (by decide +kernel) (by decide +kernel) (by decide +kernel), H0, p, d, l, n, ks, c, M, rfl, h2, hn, fun v H3 x3 r => q v H3 (x2.trans x3) r⟩
theorem ed_ubox {E : XK} {S : List (List Int)} (ho : Ev ta σ H (.ref p)) (h : Urn H0 H C p d l n ks c M) (hn : n ≤ 20) (h1 : 1 ≤ n) (g : Good n ks) (hS : S.Perm ks) (hs : Srt S) (hc : ∀ b, 0 ≤ c b ∧ c b ≤ 100) : ED (tMeth C "box" (spUbox C) [] E ta tNil) σ H (dBox n (flat S c)) := fun H1 x Q q => ho H1 x _ fun H2 x2 => by
  have h2 := h.ex (x.trans x2)
  obtain ⟨dx, h3⟩ := h2.ob
  exact ⟨p, dx, _, rfl, h3, flds_no n d l (by decide +kernel) (by decide +kernel) (by decide +kernel), H0, p, d, l, n, ks, c, M, S, rfl, h2, hn, h1, g, hS, hs, hc, fun v H3 x3 r => q v H3 (x2.trans x3) r⟩
/-! ### what evaluates to a ballot that is tracked -/
def ETk (te : TE) (σ : L2.St) (H : Hp) (b : List Int) : Prop := ∀ H1, Ex H H1 → ∀ Q : VK, (∀ v H2, Ex H1 H2 → Tk H2 v b → Q v H2) → te σ H1 Q
def ELk (te : TE) (σ : L2.St) (H : Hp) (bs : List (List Int)) : Prop := ∀ H1, Ex H H1 → ∀ Q : VK, (∀ p H2, Nw H1 p → Ex H1 H2 → LTk H2 p bs → Q (.ref p) H2) → te σ H1 Q
theorem tk_var {k : Nat} (h : σ[k]? = some (some v)) (r : Tk H v b) : ETk (tVar k) σ H b := fun H1 x Q q => ⟨v, h, q v H1 (Ex.refl H1) (r.ex x)⟩
/-- list(t[:k]) -/
theorem ek_take {xs : List V} {bs : List (List Int)} {k : Nat} {t : Addr} (hl : Ev ta σ H (.ref t)) (h1 : Rd H t (.tup xs)) (h2 : TkA H xs bs) (hk : ED tb σ H (.int (k : Int))) : ELk (tCB (Wd.rLstOf K) (tCons (tSl (rSlA K) ta tNoPart (tPart tb)) tNil)) σ H (bs.take k) := fun H1 x Q q =>
  hl H1 x _ fun H2 x2 => hk H2 (x.trans x2) _ fun w H3 x3 s => ⟨(k : Int), s.intE, by
    have x13 := (x.trans x2).trans x3
    have e1 : HT.sIx xs.length xs.length (some (k : Int)) = min k xs.length := HT.sIx_nat _ _ _
    have e0 : HT.sIx xs.length 0 none = 0 := rfl
    have hr := x13.rd h1
    have hA := h2.ex x13
    refine ⟨t, xs, rfl, SqR hr, fun h => ?_, fun _ p hp => ?_⟩
    · have hk : xs.length ≤ k := by rw [e1] at h; omega
      refine ⟨t, xs, rfl, .inr (SqR hr), fun l hl => q l _ ((x2.trans x3).back (.of hl)) ((x2.trans x3).trans (Ex.new hl)) ⟨xs, upd_same, ?_⟩⟩
      have e : bs.take k = bs := List.take_of_length_le (by rw [← h2.1]; exact hk)
      rw [e]
      exact hA.ex (Ex.new hl)
    · have e : cutV xs none (some (k : Int)) = xs.take k := by
        unfold cutV
        rw [e0, e1, List.drop_zero, Nat.sub_zero]
        by_cases hk : k ≤ xs.length
        · rw [Nat.min_eq_left hk]
        · rw [Nat.min_eq_right (by omega), List.take_of_length_le (by omega), List.take_of_length_le (by omega)]
      rw [e]
      have ep : Ex H3 (upd H3 p (.tup (xs.take k))) := Ex.new hp
      refine ⟨p, xs.take k, rfl, .inr (SqR (.inl upd_same)), fun l hl => q l _ (((x2.trans x3).trans ep).back (.of hl)) (((x2.trans x3).trans ep).trans (Ex.new hl)) ⟨_, upd_same, ?_⟩⟩
      exact ((hA.ex ep).ex (Ex.new hl)).take k⟩
/-- [a, b] -/
theorem ek_lst2 {b1 b2 : List Int} (h1 : ETk ta σ H b1) (h2 : ETk tb σ H b2) : ELk (tLst (tCons ta (tCons tb tNil))) σ H [b1, b2] := fun H1 x Q q =>
  h1 H1 x _ fun v H2 x2 r => h2 H2 (x.trans x2) _ fun w H3 x3 s => ⟨sz_of (by show 2 ≤ 100000; decide), fun p hp => q p _ ((x2.trans x3).back (.of hp)) ((x2.trans x3).trans (Ex.new hp)) ⟨_, upd_same, (((TkA.nil.app (r.ex x3)).app s).ex (Ex.new hp))⟩⟩
theorem ek_cat {bs cs : List (List Int)} (ha : ELk ta σ H bs) (hb : ELk tb σ H cs) (hz : bs.length + cs.length ≤ 100000) : ELk (tOp rCat ta tb) σ H (bs ++ cs) := fun H1 x Q q =>
  ha H1 x _ fun p H2 _ x2 hp => hb H2 (x.trans x2) _ fun r H3 _ x3 hr => by
    obtain ⟨vs, h1, h2⟩ := hp.ex x3
    obtain ⟨ws, h3, h4⟩ := hr
    exact ⟨p, r, vs, ws, rfl, rfl, h1, h3, sz_of (by rw [h2.1, h4.1]; exact hz), fun l hl => q l _ ((x2.trans x3).back (.of hl)) ((x2.trans x3).trans (Ex.new hl)) ⟨_, upd_same, (h2.cat h4).ex (Ex.new hl)⟩⟩
theorem qk_asg {k : Nat} {bs : List (List Int)} (h : ELk te σ H bs) (q : ∀ p H1, Nw H p → Ex H H1 → LTk H1 p bs → tz D (σ.set k (some (.ref p))) H1) : tSeq (tAsg te (gName k)) tz D σ H := h H (Ex.refl H) _ q
/-- (z,) * k -/
theorem tk_rep {z : Int} {k : Nat} (hk : ED tb σ H (.int (k : Int))) (h1 : 1 ≤ k) (h2 : k ≤ 1000) : ETk (tOp (W1.rRepA K) (tTup (tCons (tC (.int z)) tNil)) tb) σ H (List.replicate k z) := fun H1 x Q q =>
  ⟨sz_of (by show 1 ≤ 100000; decide), fun p hp => by
    have e1 : Ex H1 (upd H1 p (.tup [.int z])) := Ex.new hp
    refine hk _ (x.trans e1) _ fun w H2 x2 s => ⟨p, (k : Int), [.int z], rfl, s.intE, SqR (.inl (x2.at upd_same)), (fun z => by cases z), by omega, by omega, (by show 1 ≤ 1000; decide), fun hk1 => ?_, fun p2 hp2 => ?_⟩
    · have : k = 1 := by omega
      subst this
      exact q _ H2 (e1.trans x2) ⟨p, rfl, x2.at upd_same⟩
    · refine q _ _ ((e1.trans x2).trans (Ex.new hp2)) ⟨p2, rfl, ?_⟩
      rw [upd_same, List.map_replicate]
      simp⟩
/-- l[i] -/
theorem tk_ixL {q : Addr} {bs : List (List Int)} {k : Nat} (ha : Ev ta σ H (.ref q)) (hq : LTk H q bs) (hb : ED tb σ H (.int (k : Int))) (hk : bs[k]? = some b) : ETk (tOp (rIxL K) ta tb) σ H b := fun H1 x Q k' =>
  ha H1 x _ fun H2 x2 => hb H2 (x.trans x2) _ fun w H3 x3 s => by
    obtain ⟨xs, h1, h2⟩ := hq.ex ((x.trans x2).trans x3)
    have hl : k < xs.length := by rw [h2.1]; exact (List.getElem?_eq_some_iff.mp hk).1
    exact ⟨q, xs, (k : Int), xs[k], rfl, s.intE, SqL.of h1, atI_nat (List.getElem?_eq_getElem hl), k' _ H3 (x2.trans x3) (h2.2 k _ b (List.getElem?_eq_getElem hl) hk)⟩
theorem qtk_asg {k : Nat} (h : ETk te σ H b) (q : ∀ v H1, Ex H H1 → Tk H1 v b → tz D (σ.set k (some v)) H1) : tSeq (tAsg te (gName k)) tz D σ H := h H (Ex.refl H) _ q
theorem any_dB (left : List (List Int)) (b : List Int) : ((left.map dB).any fun z => PyData.eqv z (dB b)) = decide (b ∈ left) := by
  induction left with
  | nil => rfl
  | cons a left ih =>
    rw [List.map_cons, List.any_cons, dB_eqv, ih]
    by_cases e : a = b
    · subst e; simp
    · have e' : ¬ b = a := fun z => e z.symm
      simp [e, e']
/-- b in l -/
theorem ed_inB {q : Addr} {left : List (List Int)} (ha : ETk ta σ H b) (hb : Ev tb σ H (.ref q)) (hq : LTk H q left) : ED (tOp (rInD K) ta tb) σ H (.bool (decide (b ∈ left))) := fun H1 x Q k =>
  ha H1 x _ fun v H2 x2 r => hb H2 (x.trans x2) _ fun H3 x3 => by
    have hs : Sh 2 (.list (left.map dB)) := Sh.lst fun d hd => by
      obtain ⟨c, _, rfl⟩ := List.mem_map.mp hd
      exact sh_dB c
    refine ⟨dB b, left.map dB, (r.ex x3).rp.dp, (hq.ex ((x.trans x2).trans x3)).lat.dp, (sh_dB b).ok, hs.ok, ?_⟩
    have e := any_dB left b
    rw [e]
    exact k _ H3 (x2.trans x3) (.bl _)
/-! ### a list of ballots that changes beside the urn -/
theorem ex_swap {A B : Hp} {q : Addr} {vs ws : List V} (h : Ex (upd A q (.lst vs)) B) : Ex (upd A q (.lst ws)) (upd B q (.lst ws)) := by
  have hq : B q = some (.lst vs) := h.at upd_same
  refine ⟨fun a o k m => ?_, fun t => ?_⟩
  · by_cases e : a = q
    · subst e
      rw [upd_same] at k ⊢
      exact k
    · rw [upd_ne e] at k ⊢
      exact h.keep a o (by rw [upd_ne e]; exact k) m
  · have t1 : LamX.Tabs Tbl.T (upd A q (.lst vs)) := fun r hr => by
      obtain ⟨ps, a1, a2, a3⟩ := t r hr
      have n1 : r.1 ≠ q := fun z => by
        rw [z, upd_same] at a1
        cases a1
      refine ⟨ps, by rw [upd_ne n1] at a1 ⊢; exact a1, a2, fun pos cv hc => ?_⟩
      obtain ⟨c, rfl, b⟩ := a3 pos cv hc
      have n2 : c ≠ q := fun z => by
        rw [z, upd_same] at b
        cases b
      exact ⟨c, rfl, by rw [upd_ne n2] at b ⊢; exact b⟩
    have t2 := h.tabs t1
    intro r hr
    obtain ⟨ps, a1, a2, a3⟩ := t2 r hr
    have n1 : r.1 ≠ q := fun z => by
      rw [z, hq] at a1
      cases a1
    refine ⟨ps, by rw [upd_ne n1]; exact a1, a2, fun pos cv hc => ?_⟩
    obtain ⟨c, rfl, b⟩ := a3 pos cv hc
    have n2 : c ≠ q := fun z => by
      rw [z, hq] at b
      cases b
    exact ⟨c, rfl, by rw [upd_ne n2]; exact b⟩
/-- the urn does not mind what the list at q holds -/
theorem Urn.swap {A : Hp} {q : Addr} {vs0 vs : List V} (h : Urn A H C p d l n ks c M) (hq : A q = some (.lst vs0)) : Urn (upd A q (.lst vs)) H C p d l n ks c M := by
  have nw : ∀ a, Nw A a → Nw (upd A q (.lst vs)) a := fun a ha o ho nb => by
    by_cases e : a = q
    · subst e
      exact ha _ hq True.intro
    · rw [upd_ne e] at ho
      exact ha o ho nb
  obtain ⟨h1, h2, ⟨ps, m1, m2, m3, m4, m5, m6⟩, h4, h5, h6, h7, h8, h9⟩ := h
  exact ⟨h1, h2, ⟨ps, m1, m2, m3, m4, fun x hx => nw x (m5 x hx), m6⟩, nw _ h4, nw _ h5, nw _ h6, h7, h8, h9⟩
theorem Urn.unswap {A : Hp} {q : Addr} {vs0 vs : List V} (h : Urn (upd A q (.lst vs)) H C p d l n ks c M) (hq : A q = some (.lst vs0)) : Urn A H C p d l n ks c M := by
  have nw : ∀ a, Nw (upd A q (.lst vs)) a → Nw A a := fun a ha o ho nb => by
    by_cases e : a = q
    · subst e
      exact ha _ upd_same True.intro
    · exact ha o (by rw [upd_ne e]; exact ho) nb
  obtain ⟨h1, h2, ⟨ps, m1, m2, m3, m4, m5, m6⟩, h4, h5, h6, h7, h8, h9⟩ := h
  exact ⟨h1, h2, ⟨ps, m1, m2, m3, m4, fun x hx => nw x (m5 x hx), m6⟩, nw _ h4, nw _ h5, nw _ h6, h7, h8, h9⟩
/-- the list changes: the urn stays -/
theorem Urn.updq {A : Hp} {q : Addr} {vs0 vs : List V} (h : Urn A H C p d l n ks c M) (hq : A q = some (.lst vs0)) : Urn A (upd H q (.lst vs)) C p d l n ks c M := by
  have ne : ∀ a, Nw A a → a ≠ q := fun a ha e => ha (.lst vs0) (by rw [e]; exact hq) True.intro
  obtain ⟨⟨dx, h1⟩, h2, ⟨ps, m1, m2, m3, m4, m5, m6⟩, h4, h5, h6, h7, h8, h9⟩ := h
  exact ⟨⟨dx, by rw [upd_ne (ne _ h4)]; exact h1⟩, by rw [upd_ne (ne _ h5)]; exact h2, ⟨ps, by rw [upd_ne (ne _ h6)]; exact m1, m2, m3, m4, m5, fun i x hx => by rw [upd_ne (ne _ (m5 x (List.mem_of_getElem? hx)))]; exact m6 i x hx⟩, h4, h5, h6, h7, h8, h9⟩
/-- all but the urn is known -/
theorem Urn.off (h : Urn H0 H C p d l n ks c M) : ∃ A, Ex A H ∧ Urn A H C p d l n ks c M ∧ (∀ a o, H a = some o → NoB o → (∀ a0, Nw H0 a0 → a ≠ a0) → A a = some o) ∧ (∀ a xs, H a = some (.tup xs) → A a = some (.tup xs)) := by
  obtain ⟨⟨dx, h1⟩, h2, ⟨ps, m1, m2, m3, m4, m5, m6⟩, h4, h5, h6, h7, h8, h9⟩ := h
  let A : Hp := fun a => if a = p ∨ a = d ∨ a = l ∨ a ∈ ps then none else H a
  have hA : ∀ a, ¬ (a = p ∨ a = d ∨ a = l ∨ a ∈ ps) → A a = H a := fun a h => if_neg h
  have hN : ∀ a, (a = p ∨ a = d ∨ a = l ∨ a ∈ ps) → Nw A a := fun a h => .of (if_pos h)
  have nw0 : ∀ a, (a = p ∨ a = d ∨ a = l ∨ a ∈ ps) → Nw H0 a := fun a h => by
    rcases h with rfl | rfl | rfl | h
    · exact h4
    · exact h5
    · exact h6
    · exact m5 a h
  refine ⟨A, Ex.same fun a o k => ?_, ⟨⟨dx, h1⟩, h2, ⟨ps, m1, m2, m3, m4, fun x hx => hN x (.inr (.inr (.inr hx))), m6⟩, hN p (.inl rfl), hN d (.inr (.inl rfl)), hN l (.inr (.inr (.inl rfl))), h7, h8, h9⟩, fun a o k nb ne => ?_, fun a xs k => ?_⟩
  · by_cases e : a = p ∨ a = d ∨ a = l ∨ a ∈ ps
    · have : A a = none := if_pos e
      rw [this] at k
      cases k
    · rw [hA a e] at k
      exact k
  · rw [hA a fun e => ne a (nw0 a e) rfl]
    exact k
  · rw [hA a fun e => ?_]
    · exact k
    · rcases e with rfl | rfl | rfl | e
      · rw [h1] at k
        cases k
      · rw [h2] at k
        cases k
      · rw [m1] at k
        cases k
      · obtain ⟨i, hi, e⟩ := List.getElem_of_mem e
        have := m6 i a (by rw [List.getElem?_eq_getElem hi, e])
        rw [this] at k
        cases k
end
end W11
namespace W11
open PySem PySem.Spec PyProof.Rows L2 Wd Wt Wx Wm Wg Wy Wz Wc Wq Wj Wi
section
variable [Tbl] {H H' H0 : Hp} {C p d l : Addr} {n : Nat} {ks : List (List Int)} {c : List Int → Int} {M M' : Nat → Nat → Int}
theorem Urn.congrM (h : Urn H0 H C p d l n ks c M) (e : ∀ i j, i < n → j < n → M i j = M' i j) : Urn H0 H C p d l n ks c M' := ⟨h.ob, h.dc, h.ma.congr e, h.np, h.nd, h.nl, h.dup, h.out, h.few⟩
end
/-- as far as the loops have come -/
def upTo (M : Nat → Nat → Int) (y : Int) (b : List Int) (i j : Nat) : Nat → Nat → Int := fun a e => if a < i ∨ (a = i ∧ e < j) then M a e + y * sgnAt b a e else M a e
theorem upTo_start (M : Nat → Nat → Int) (y : Int) (b : List Int) (a e : Nat) : M a e = upTo M y b 0 0 a e := by
  unfold upTo
  rw [if_neg (by omega)]
theorem upTo_next {M : Nat → Nat → Int} {y : Int} {b : List Int} {i n a e : Nat} (h : e < n) : upTo M y b i n a e = upTo M y b (i + 1) 0 a e := by
  unfold upTo
  by_cases c : a < i ∨ (a = i ∧ e < n)
  · rw [if_pos c, if_pos (by omega)]
  · rw [if_neg c, if_neg (by omega)]
theorem upTo_end {M : Nat → Nat → Int} {y : Int} {b : List Int} {n a e : Nat} (h : a < n) : upTo M y b n 0 a e = addM M y b a e := by
  unfold upTo addM
  rw [if_pos (.inl h)]
theorem upTo_step {M : Nat → Nat → Int} {y : Int} {b : List Int} {i j a e : Nat} : put2 (upTo M y b i j) i j (upTo M y b i j i j + y * sgnAt b i j) a e = upTo M y b i (j + 1) a e := by
  unfold put2
  by_cases c : a = i ∧ e = j
  · obtain ⟨rfl, rfl⟩ := c
    rw [if_pos ⟨rfl, rfl⟩]
    unfold upTo
    rw [if_neg (by omega), if_pos (by omega)]
  · rw [if_neg c]
    unfold upTo
    by_cases c2 : a < i ∨ (a = i ∧ e < j)
    · rw [if_pos c2, if_pos (by omega)]
    · rw [if_neg c2, if_neg (by omega)]
theorem flat_len {c : List Int → Int} (hc : ∀ b, 0 ≤ c b ∧ c b ≤ 100) : ∀ S : List (List Int), (flat S c).length ≤ 100 * S.length
  | [] => Nat.le_refl _
  | a :: S => by
    have ih := flat_len hc S
    have := hc a
    unfold flat at ih ⊢
    rw [List.flatMap_cons, List.length_append, List.length_replicate, List.length_cons]
    omega
theorem flat_app (S : List (List Int)) (b : List Int) (c : List Int → Int) : flat (S ++ [b]) c = flat S c ++ List.replicate (c b).toNat b := by
  unfold flat
  rw [List.flatMap_append]
  simp
end W11
namespace W11
open PySem PySem.Spec PyProof.Rows L2 Wd Wy
theorem sm_fld [Tbl] {K : PySem.W.Frag} {σ : L2.St} {H : Hp} {te : TE} {D : Ends} {f : Str} {i m n : Nat} {M : Nat → Nat → Int} {a C dx : Addr} {fs : List (Str × V)} (h : W7.EM te σ H m n M) (hs : σ[i]? = some (some (.ref a))) (ha : H a = some (.ins C dx fs)) (cl : Cls K C) (na : NoAttr K C f) (hz : fs.length < 1000)
    (k : ∀ l H1, Nw H l → Ex H H1 → MAt H H1 l m n M → D.nx σ (upd H1 a (.ins C dx (putF f (.ref l) fs)))) : sFld K (tVar i) te f D σ H := h H (.refl H) _ fun l H1 nl x hM => ⟨_, hs, a, C, dx, fs, rfl, x.at ha, cl, na, hz, k l H1 nl x hM⟩
end W11
/-! The urn: boxes whose ballots are tracked; the list beside the urn, in and out. -/
namespace W11
open PySem PySem.Spec PyProof.Rows L2 Wd Wt Wx Wm Wg Wy Wz Wc Wq Wj Wi
def rNN : R2 := fun x y H Q => y = .non ∧ Q (.bl (!decide (x = .non))) H
def BxT (H : Hp) (v : V) (n : Nat) (bs : List (List Int)) : Prop := ∃ (a t : Addr) (xs : List V), v = .ref a ∧ Rd H a (.tup [.int (n : Int), .ref t]) ∧ Rd H t (.tup xs) ∧ TkA H xs bs
def spBallotT [Tbl] : Sp := fun vs H Q _ => ∃ (c : Int) (n w : Nat), vs = [.int c, .int (n : Int), .int (w : Int)] ∧ 1 ≤ n ∧ n ≤ 20 ∧ w < 3 ∧ ∀ v b H', Ex H H' → Tk H' v b → b.length = n → Pl b → Q v H'
def spBoxT [Tbl] (K : PySem.W.Frag) : Sp := fun vs H Q _ => ∃ (a : Addr) (ns : List Int) (most : Nat), vs = [.ref a, .int (most : Int)] ∧ SqL K H a (ns.map V.int) ∧ 1 ≤ most ∧ most ≤ 20 ∧
  ∀ v H' n bs, Ex H H' → Box most n bs → BxT H' v n bs → Q v H'
theorem tk_upd {H : Hp} {x : V} {b : List Int} {p : Addr} {xs ys : List V} (h : Tk H x b) (hp : H p = some (.lst xs)) : Tk (upd H p (.lst ys)) x b := by
  obtain ⟨a, rfl, h1⟩ := h
  have : a ≠ p := fun z => by
    rw [z, hp] at h1
    cases h1
  exact ⟨a, rfl, by rw [upd_ne this]; exact h1⟩
theorem tkA_upd {H : Hp} {vs : List V} {bs : List (List Int)} {p : Addr} {xs ys : List V} (h : TkA H vs bs) (hp : H p = some (.lst xs)) : TkA (upd H p (.lst ys)) vs bs := ⟨h.1, fun i v b h1 h2 => tk_upd (h.2 i v b h1 h2) hp⟩
theorem ltk_nil {H : Hp} {p : Addr} (h : LAt H p []) : LTk H p [] := by
  obtain ⟨vs, h1, h2⟩ := h
  rw [h2.nilE] at h1
  exact ⟨[], h1, .nil⟩
section
variable [Tbl] {K : PySem.W.Frag} {σ : L2.St} {H H' H0 A : Hp} {ta tb te tl tx : TE} {t : TT} {v : V} {d d1 d2 : PyData} {ds es : List PyData} {D : Ends} {tu tw tz : TS} {p q l C : Addr} {n : Nat} {i j : Nat} {b : List Int} {bs ks : List (List Int)} {vs : List V} {c : List Int → Int} {M : Nat → Nat → Int} {dd : Addr}
/-- l.append(e), e a ballot that is tracked -/
theorem st_app {P : List Int → Prop} (e0 : Ex H0 H) (h0 : Nw H0 p) (hp : LTk H p bs) (ha : Ev ta σ H (.ref p)) (h : ∀ H1, Ex H H1 → ∀ Q : VK, (∀ v b H2, Ex H1 H2 → Tk H2 v b → P b → Q v H2) → te σ H1 Q) (hz : bs.length < 100000)
    (k : ∀ H2 b, P b → Ex H0 H2 → LTk H2 p (bs ++ [b]) → D.nx σ H2) :
    tDrop (tBM K "list" rAppend ta (tCons te tNil)) D σ H := ha H (.refl H) _ fun H1 e1 => by
  obtain ⟨vs, h1, r1⟩ := hp
  refine ⟨.inl ⟨rfl, vs, SqL.of (e1.at h1)⟩, h H1 e1 _ fun v b H2 e2 r pd => ⟨p, vs, v, rfl, rfl, e2.at (e1.at h1), sz_lt (by rw [r1.1]; exact hz), ?_⟩⟩
  have e12 := e1.trans e2
  exact k _ b pd (Ex.mut (e0.trans e12) h0 (e12.at h1)) ⟨_, upd_same, tkA_upd ((r1.ex e12).app r) (e12.at h1)⟩
theorem qt_app {P : List Int → Prop} (e0 : Ex H0 H) (h0 : Nw H0 p) (hp : LTk H p bs) (ha : Ev ta σ H (.ref p)) (h : ∀ H1, Ex H H1 → ∀ Q : VK, (∀ v b H2, Ex H1 H2 → Tk H2 v b → P b → Q v H2) → te σ H1 Q) (hz : bs.length < 100000)
    (k : ∀ H2 b, P b → Ex H0 H2 → LTk H2 p (bs ++ [b]) → tz D σ H2) :
    tSeq (tDrop (tBM K "list" rAppend ta (tCons te tNil))) tz D σ H := st_app (D := { D with nx := tz D }) e0 h0 hp ha h hz k
/-- (n, tuple(l)), l a list of tracked ballots -/
theorem ed_boxT {i : Nat} (hn : σ[i]? = some (some (.int (n : Int)))) (hl : Ev ta σ H (.ref p)) (hp : LTk H p bs) {Q : VK} (k : ∀ v H2, Ex H H2 → BxT H2 v n bs → Q v H2) : tTup (tCons (tVar i) (tCons (tCB (Wd.rTupOf K) (tCons ta tNil)) tNil)) σ H Q :=
  ⟨_, hn, hl H (.refl H) _ fun H1 x1 => by
    obtain ⟨vs, h1, h2⟩ := hp.ex x1
    refine ⟨p, vs, rfl, .inl ⟨SqL.of h1, fun t ht => ⟨sz_of (by show 2 ≤ 100000; decide), fun a ha => ?_⟩⟩⟩
    have e1 : Ex H1 (upd H1 t (.tup vs)) := Ex.new ht
    have e2 : Ex (upd H1 t (.tup vs)) (upd (upd H1 t (.tup vs)) a (.tup [.int (n : Int), .ref t])) := Ex.new ha
    exact k _ _ ((x1.trans e1).trans e2) ⟨a, t, vs, rfl, .inl upd_same, e2.rd (.inl upd_same), (h2.ex e1).ex e2⟩⟩
/-- l[k], l a list that stands -/
theorem ev_ixL {xs : List V} {k : Nat} (ha : Ev ta σ H (.ref q)) (h1 : H q = some (.lst xs)) (hb : ED tb σ H (.int (k : Int))) (hk : xs[k]? = some v) : Ev (tOp (rIxL K) ta tb) σ H v := fun H1 x Q k' =>
  ha H1 x _ fun H2 x2 => hb H2 (x.trans x2) _ fun w H3 x3 s => ⟨q, xs, (k : Int), v, rfl, s.intE, SqL.of (((x.trans x2).trans x3).at h1), atI_nat hk, k' H3 (x2.trans x3)⟩
theorem qv_asg {k : Nat} (h : Ev te σ H v) (q : ∀ H1, Ex H H1 → tz D (σ.set k (some v)) H1) : tSeq (tAsg te (gName k)) tz D σ H := h H (Ex.refl H) _ q
/-- l.append(x), both at names: as it is -/
theorem sq_app (hs : σ[i]? = some (some (.ref q))) (hv : σ[j]? = some (some v)) (hq : H q = some (.lst vs)) (hz : vs.length < 100000) (k : D.nx σ (upd H q (.lst (vs ++ [v])))) : tDrop (tBM K "list" rAppend (tVar i) (tCons (tVar j) tNil)) D σ H :=
  ⟨_, hs, .inl ⟨rfl, vs, SqL.of hq⟩, _, hv, q, vs, v, rfl, rfl, hq, sz_lt hz, k⟩
/-- l.remove(x), both at names: as it is -/
theorem sq_rem (hs : σ[i]? = some (some (.ref q))) (hv : σ[j]? = some (some v)) (hq : H q = some (.lst vs)) (hA : TkA H vs bs) (hb : Tk H v b) (hm : b ∈ bs) (k : D.nx σ (upd H q (.lst (vs.eraseIdx (bs.idxOf b))))) : tDrop (tBM K "list" (rRemB K) (tVar i) (tCons (tVar j) tNil)) D σ H :=
  ⟨_, hs, .inl ⟨rfl, vs, SqL.of hq⟩, _, hv, q, vs, bs, v, b, rfl, rfl, hq, hA.rp.dp, hb.rp.dp, hm, k⟩
/-- all but the urn stands in A: what is new to the heap where the urn was, too -/
theorem Urn.off2 {Hu : Hp} (hu : Urn H0 Hu C p dd l n ks c M) (x : Ex Hu H) : ∃ A, Ex A H ∧ Urn A H C p dd l n ks c M ∧ (∀ a o, H a = some o → NoB o → Nw Hu a → A a = some o) ∧ (∀ a xs, H a = some (.tup xs) → A a = some (.tup xs)) := by
  have hx := hu.ex x
  obtain ⟨⟨dx, h1⟩, h2, ⟨ps, m1, m2, m3, m4, m5, m6⟩, h4, h5, h6, h7, h8, h9⟩ := hu
  let A : Hp := fun a => if a = p ∨ a = dd ∨ a = l ∨ a ∈ ps then none else H a
  have hA : ∀ a, ¬ (a = p ∨ a = dd ∨ a = l ∨ a ∈ ps) → A a = H a := fun a h => if_neg h
  have hN : ∀ a, (a = p ∨ a = dd ∨ a = l ∨ a ∈ ps) → Nw A a := fun a h => .of (if_pos h)
  have inU : ∀ a, (a = p ∨ a = dd ∨ a = l ∨ a ∈ ps) → ∃ o, Hu a = some o ∧ NoB o ∧ ∀ xs, o ≠ .tup xs := fun a h => by
    rcases h with rfl | rfl | rfl | h
    · exact ⟨_, h1, True.intro, fun _ z => nomatch z⟩
    · exact ⟨_, h2, True.intro, fun _ z => nomatch z⟩
    · exact ⟨_, m1, True.intro, fun _ z => nomatch z⟩
    · obtain ⟨i, hi, e⟩ := List.getElem_of_mem h
      exact ⟨_, m6 i a (by rw [List.getElem?_eq_getElem hi, e]), True.intro, fun _ z => nomatch z⟩
  obtain ⟨x1, x2, ⟨ps', n1, n2, n3, n4, n5, n6⟩, x4, x5, x6, x7, x8, x9⟩ := hx
  refine ⟨A, Ex.same fun a o k => ?_, ⟨x1, x2, ⟨ps, x.at m1, m2, m3, m4, fun y hy => hN y (.inr (.inr (.inr hy))), fun i y hy => x.at (m6 i y hy)⟩, hN p (.inl rfl), hN dd (.inr (.inl rfl)), hN l (.inr (.inr (.inl rfl))), h7, h8, h9⟩, fun a o k nb ne => ?_, fun a xs k => ?_⟩
  · by_cases e : a = p ∨ a = dd ∨ a = l ∨ a ∈ ps
    · have : A a = none := if_pos e
      rw [this] at k
      cases k
    · rw [hA a e] at k
      exact k
  · rw [hA a fun e => ?_]
    · exact k
    · obtain ⟨o', h, nb', _⟩ := inU a e
      exact ne o' h nb'
  · rw [hA a fun e => ?_]
    · exact k
    · obtain ⟨o', h, nb', nt⟩ := inU a e
      have := x.at h nb'
      rw [k] at this
      exact nt xs (Option.some.inj this).symm
/-- x = l + [a ballot that P tells of, another] -/
theorem qs_asg {k : Nat} {P : List Int → Prop} {b2 : List Int} (ha : ELk ta σ H bs) (hb : ∀ H1, Ex H H1 → ∀ Q : VK, (∀ v b H2, Ex H1 H2 → Tk H2 v b → P b → Q v H2) → tb σ H1 Q) (hc : ETk te σ H b2) (hz : bs.length ≤ 1000)
    (k' : ∀ p b H1, P b → Nw H p → Ex H H1 → LTk H1 p (bs ++ [b, b2]) → tz D (σ.set k (some (.ref p))) H1) : tSeq (tAsg (tOp rCat ta (tLst (tCons tb (tCons te tNil)))) (gName k)) tz D σ H :=
  ha H (.refl H) _ fun p H2 _ x2 hp => hb H2 x2 _ fun v b H3 x3 rb pb => hc H3 (x2.trans x3) _ fun w H4 x4 s => ⟨sz_of (by show 2 ≤ 100000; decide), fun r hr => by
    have er : Ex H4 (upd H4 r (.lst [v, w])) := Ex.new hr
    have x34 := (x3.trans x4).trans er
    obtain ⟨vs, h1, h2⟩ := hp.ex x34
    have hL : TkA (upd H4 r (.lst [v, w])) [v, w] [b, b2] := ((TkA.nil.app (rb.ex x4)).app s).ex er
    exact ⟨p, r, vs, [v, w], rfl, rfl, h1, upd_same, sz_of (by rw [h2.1]; show bs.length + 2 ≤ 100000; omega), fun l hl => k' l b _ pb ((x2.trans x34).back (.of hl)) ((x2.trans x34).trans (Ex.new hl)) ⟨_, upd_same, (h2.cat hL).ex (Ex.new hl)⟩⟩⟩
/-- if o.put(b) is not None: .. -/
theorem q_put {E : XK} (ho : σ[i]? = some (some (.ref p))) (hv : σ[j]? = some (some v)) (e0 : Ex H0 H) (hu : Urn H0 H C p dd l n ks c M) (hb : Tk H v b) (hbl : b.length = n) (hn : n ≤ 20) (hk : ks.length < 50)
    (k : ∀ H1, Ex H0 H1 → Urn H0 H1 C p dd l n (addK ks b) (upC c b (c b + 1)) (addM M 1 b) → tz D σ H1) :
    tSeq (tIfS (tTest (tOp rNN (tMeth C "put" (spPut C) [] E (tVar i) (tCons (tVar j) tNil)) (tC .non))) tu tNext) tz D σ H := by
  obtain ⟨dx, h1⟩ := hu.ob
  refine ⟨_, ho, p, dx, _, rfl, h1, flds_no n dd l (by decide +kernel) (by decide +kernel) (by decide +kernel), _, hv, H0, p, dd, l, n, ks, c, M, v, b, rfl, hb, hbl, hn, e0, hu, hk, fun H1 e1 hu1 => ?_⟩
  have h : V.non = V.non ∧ ∃ k, V.bl (!decide (V.non = V.non)) = V.bl k ∧ (if k = true then tu { D with nx := tz D } σ H1 else tz D σ H1) := ⟨rfl, false, by simp, iteF (k H1 e1 hu1)⟩
  exact h
/-- if taken(o, b) is not None: .. -/
theorem q_took {E : XK} (ho : σ[i]? = some (some (.ref p))) (hv : σ[j]? = some (some v)) (e0 : Ex H0 H) (hu : Urn H0 H C p dd l n ks c M) (hb : Tk H v b) (hbl : b.length = n) (hn : n ≤ 20) (hk : ks.length < 50) (h0 : c b ≠ 0)
    (k : ∀ H1, Ex H0 H1 → Urn H0 H1 C p dd l n (addK ks b) (upC c b (c b + -1)) (addM M (-1) b) → tz D σ H1) :
    tSeq (tIfS (tTest (tOp rNN (tCall (spTaken C) [] E (tCons (tVar i) (tCons (tVar j) tNil))) (tC .non))) tu tNext) tz D σ H := by
  refine ⟨_, ho, _, hv, H0, p, dd, l, n, ks, c, M, v, b, rfl, hb, hbl, hn, e0, hu, hk, .inr ⟨h0, fun H1 e1 hu1 => ?_⟩⟩
  have h : V.non = V.non ∧ ∃ k, V.bl (!decide (V.non = V.non)) = V.bl k ∧ (if k = true then tu { D with nx := tz D } σ H1 else tz D σ H1) := ⟨rfl, false, by simp, iteF (k H1 e1 hu1)⟩
  exact h
/-- if taken(o, b) != "no ballot": .. -/
theorem s_none {E : XK} (ho : σ[i]? = some (some (.ref p))) (hv : σ[j]? = some (some v)) (e0 : Ex H0 H) (hu : Urn H0 H C p dd l n ks c M) (hb : Tk H v b) (hbl : b.length = n) (hn : n ≤ 20) (hk : ks.length < 50) (h0 : c b = 0)
    (k : ∀ H1, Ex H H1 → D.nx σ H1) :
    tIfS (tTest (tOp rNe (tCall (spTaken C) [] E (tCons (tVar i) (tCons (tVar j) tNil))) (tC (.str "no ballot")))) tu tNext D σ H :=
  ⟨_, ho, _, hv, H0, p, dd, l, n, ks, c, M, v, b, rfl, hb, hbl, hn, e0, hu, hk, .inl ⟨h0, fun H1 e1 => And.intro rfl ⟨false, by simp, iteF (k H1 e1)⟩⟩⟩
end
/-! ### what the loop keeps -/
structure Kept (n : Nat) (left ks : List (List Int)) (c : List Int → Int) (M : Nat → Nat → Int) : Prop where
  gl : Good n left
  gk : Good n ks
  few : left.length ≤ 40
  sub : ∀ b ∈ left, b ∈ ks
  cnt : ∀ b, c b = ((left.count b : Nat) : Int)
  tab : ∀ i j, i < n → j < n → M i j = lead left i j
theorem Kept.nil {n : Nat} : Kept n [] [] (fun _ => 0) (fun _ _ => 0) := ⟨(fun b h => nomatch h), (fun b h => nomatch h), by decide, (fun b h => nomatch h), fun _ => rfl, fun _ _ _ _ => rfl⟩
theorem good_app {n : Nat} {bs : List (List Int)} {b : List Int} (g : Good n bs) (h : b.length = n) (hp : Pl b) : Good n (bs ++ [b]) := fun x hx => by
  rcases List.mem_append.mp hx with hx | hx
  · exact g x hx
  · rw [List.mem_singleton.mp hx]
    exact ⟨h, pl_bd hp⟩
theorem good_add {n : Nat} {ks : List (List Int)} {b : List Int} (g : Good n ks) (h : b.length = n) (hp : Pl b) : Good n (addK ks b) := fun x hx => by
  rcases mem_addK.mp hx with hx | rfl
  · exact g x hx
  · exact ⟨h, pl_bd hp⟩
theorem Kept.put {n : Nat} {left ks : List (List Int)} {c : List Int → Int} {M : Nat → Nat → Int} {b : List Int} (h : Kept n left ks c M) (hl : left.length < 40) (hb : b.length = n) (hp : Pl b) : Kept n (left ++ [b]) (addK ks b) (upC c b (c b + 1)) (addM M 1 b) := by
  refine ⟨good_app h.gl hb hp, good_add h.gk hb hp, by rw [List.length_append, List.length_singleton]; omega, fun x hx => ?_, fun x => ?_, fun i j hi hj => ?_⟩
  · rcases List.mem_append.mp hx with hx | hx
    · exact mem_addK.mpr (.inl (h.sub x hx))
    · exact mem_addK.mpr (.inr (List.mem_singleton.mp hx))
  · unfold upC
    rw [List.count_append, List.count_singleton]
    by_cases e : x = b
    · subst e
      rw [if_pos rfl, h.cnt]
      simp
    · rw [if_neg e, h.cnt]
      have : (b == x) = false := by simpa using fun z : b = x => e z.symm
      rw [this]
      simp
  · unfold addM
    rw [lead_app, h.tab i j hi hj]
    omega
theorem Kept.take {n : Nat} {left ks : List (List Int)} {c : List Int → Int} {M : Nat → Nat → Int} {b : List Int} (h : Kept n left ks c M) (hm : b ∈ left) : Kept n (left.eraseIdx (left.idxOf b)) (addK ks b) (upC c b (c b + -1)) (addM M (-1) b) := by
  have ee : left.eraseIdx (left.idxOf b) = left.erase b := List.erase_eq_eraseIdx_of_idxOf rfl |>.symm
  rw [ee]
  have hk : addK ks b = ks := by
    unfold addK
    rw [if_pos (h.sub b hm)]
  rw [hk]
  refine ⟨fun x hx => h.gl x (List.mem_of_mem_erase hx), h.gk, by have := List.length_erase_le (a := b) (l := left); have := h.few; omega, fun x hx => h.sub x (List.mem_of_mem_erase hx), fun x => ?_, fun i j hi hj => ?_⟩
  · unfold upC
    by_cases e : x = b
    · subst e
      rw [if_pos rfl, h.cnt, List.count_erase_self]
      have := List.count_pos_iff.mpr hm
      omega
    · rw [if_neg e, h.cnt, List.count_erase_of_ne e]
  · unfold addM
    rw [lead_erase hm, h.tab i j hi hj]
    omega
section
variable [Tbl] {σ : L2.St} {H H0 : Hp} {D : Ends} {tu : TS} {p q l C dd : Addr} {n : Nat} {ks left : List (List Int)} {c : List Int → Int} {M : Nat → Nat → Int}
/-- if not right(o, many, left): .. -/
theorem s_right {E : XK} (h3 : σ[3]? = some (some (.ref p))) (h1 : σ[1]? = some (some (.int (n : Int)))) (h4 : σ[4]? = some (some (.ref q))) (hu : Urn H0 H C p dd l n ks c M) (hq : LTk H q left) (kp : Kept n left ks c M) (hn1 : 1 ≤ n) (hn : n ≤ 20) (k : ∀ H1, Ex H H1 → D.nx σ H1) :
    tIfS (tNot (tB (tCall (spRight C) [] E (tCons (tVar 3) (tCons (tVar 1) (tCons (tVar 4) tNil)))))) tu tNext D σ H :=
  ⟨_, h3, _, h1, _, h4, H0, p, dd, l, n, ks, c, M, q, left, rfl, hu, hq, hn1, hn, kp.gl, kp.gk, kp.few, kp.sub, kp.cnt, kp.tab, fun H1 e1 => ⟨true, rfl, iteF (k H1 e1)⟩⟩
end
end W11
namespace W11
open PySem PySem.Spec PyProof.Rows L2 Wd
/-! ### the end -/
theorem uc_mk {K : PySem.W.Frag} {mg : Str → Option Value} {h : Heap} {C : Addr} {x : Str} (X : K.In h) (aC : PySem.W.nsIn K mainGlobals x = some (some (.ref C)))
    (pg : PySem.W.plainGet K C Str.empty = true) (hd : PySem.W.hasDictIn K C = true) (po : PySem.W.plainOver K C = true) (sa : PySem.W.findIn K (.ref C) "__setattr__" = some (some (.builtin "object.__setattr__")))
    (nM : PySem.W.findIn K (.ref C) "many" = some none) (nC : PySem.W.findIn K (.ref C) "counts" = some none) (nL : PySem.W.findIn K (.ref C) "leads" = some none) : UC K mg C := ⟨⟨pg, hd, po, sa⟩, nM, nC, nL⟩
theorem met_mk {K : PySem.W.Frag} {h : Heap} {C f : Addr} {x m qual : Str} {st : Stmt} {ps : List Str} {oc : Value} {od an : Option Addr} {osl : Array (Option Value)} {kV doc pm cdv ct : Value} (X : K.In h) (aC : PySem.W.nsIn K mainGlobals x = some (some (.ref C)))
    (a : PySem.W.findIn K (.ref C) m = some (some (.ref f))) (i : PySem.W.isFn K (.ref f) = true) (l : K.lookup f = some ⟨oc, od, .func (PySem.W.fnOf m qual (defArgs st) (defBody st) (defScope st) .none kV doc pm an cdv ct), osl⟩) (c : PySem.W.codeIn K cdv qual = true) (k : PySem.W.keepIn K (.ref f) = true)
    (b : ∀ (kV doc pm : Value) (an : Option Addr) (cdv ct : Value) (us : List Value), us.length = ps.length → bindArgs (PySem.W.fnOf m qual (defArgs st) (defBody st) (defScope st) .none kV doc pm an cdv ct) ⟨us, []⟩ = pure (ps.zip us)) : MetAt K C m qual st ps :=
  ⟨f, _, fun_mk l c k, ⟨a, i, k⟩, (fun_mk l c k).binds b⟩
theorem mkat_mk {K : PySem.W.Frag} {mg : Str → Option Value} {h : Heap} {C f : Addr} {x qual : Str} {st : Stmt} {ps : List Str} {oc : Value} {od an : Option Addr} {osl : Array (Option Value)} {kV doc pm cdv ct : Value} (X : K.In h) (G : h.Ns mainGlobals mg) (aC : PySem.W.nsIn K mainGlobals x = some (some (.ref C)))
    (a : PySem.W.findIn K (.ref C) "__init__" = some (some (.ref f))) (i : PySem.W.isFn K (.ref f) = true) (l : K.lookup f = some ⟨oc, od, .func (PySem.W.fnOf "__init__" qual (defArgs st) (defBody st) (defScope st) .none kV doc pm an cdv ct), osl⟩) (c : PySem.W.codeIn K cdv qual = true) (k : PySem.W.keepIn K (.ref f) = true) (mk : PySem.W.makesIn K C = true) (kc : PySem.W.keepIn K (.ref C) = true)
    (b : ∀ (kV doc pm : Value) (an : Option Addr) (cdv ct : Value) (us : List Value), us.length = ps.length → bindArgs (PySem.W.fnOf "__init__" qual (defArgs st) (defBody st) (defScope st) .none kV doc pm an cdv ct) ⟨us, []⟩ = pure (ps.zip us)) : MkAt K mg C x qual st ps :=
  ⟨f, _, fun_mk l c k, ⟨mk, a, i, kc⟩, PySem.W.mg_of X G aC, (fun_mk l c k).binds b⟩
end W11
namespace Wl
open PySem L2 Wd Wm C8
def top (i : Nat) : Stmt := PySem.Challenge.pw_wishcount_k11_whole_urns.main.body.getD i (.Pass ⟨0, 0, 0, 0⟩)
end Wl
namespace Wl
open PySem L2 Wd Wm C8
section
variable [Tbl] {P : Program} {w : World} {K : PySem.W.Frag} {mg : Str → Option Value} {base : Heap}
-- slots 0:ballot 1:one 2:other
abbrev s_sign : Stmt := top 4
theorem sc_sign : FnScope ["ballot", "one", "other"] ["ballot", "one", "other"] (defScope s_sign) := ⟨rfl, rfl, rfl, by decide +kernel, rfl, by decide +kernel, by decide +kernel⟩
theorem ok_sign (B : Bt mg) (F : DefAt K mg "sign" s_sign ["ballot", "one", "other"]) : Cal P w K mg base 1 "sign" (SpR R_sign) [] := by
  refine cal_ok F sc_sign (fun vs H Q E h => h.len (n := 3) fun ds d ⟨_, _, _, e, _⟩ => by rw [e]; rfl) (fun f cdv A outer s H vs Q E hr h => ?_)
  obtain ⟨ds, d, tv, ⟨b, i, j, rfl, hi, hj, rfl⟩, k⟩ := h
  obtain ⟨v0, v1, v2, rfl, t0, t1, t2⟩ := tv.e3
  refine ⟨_, ((pss_one (ps_ret (pe_op op_sub (pe_callTy (T := "int") call_int1 (by rfl) B.int (by decide +kernel) (pa_cons (pe_cmpR op_lt (pe_ix (ix_tupK (K := K) rfl) (pv 0) (pv 1) (fun _ _ => rfl)) (pe_ix (ix_tupK (K := K) rfl) (pv 0) (pv 2) (fun _ _ => rfl)) (nomark _)) pa_nil)) (pe_callTy (T := "int") call_int1 (by rfl) B.int (by decide +kernel) (pa_cons (pe_cmpR op_lt (pe_ix (ix_tupK (K := K) rfl) (pv 0) (pv 2) (fun _ _ => rfl)) (pe_ix (ix_tupK (K := K) rfl) (pv 0) (pv 1) (fun _ _ => rfl)) (nomark _)) pa_nil)))))), ?_⟩
  have e0 : ∀ {H}, Rp H v0 (dB b) → ED (tVar 0) [some v0, some v1, some v2] H (dB b) := fun t => ed_var rfl t
  exact sd_ret (ed_I (ed_intB (ed_B (ed_ix (ed_var rfl t0) (ed_var rfl t1) (dB_get hi)) (ed_ix (ed_var rfl t0) (ed_var rfl t2) (dB_get hj))))
    (ed_intB (ed_B (ed_ix (ed_var rfl t0) (ed_var rfl t2) (dB_get hj)) (ed_ix (ed_var rfl t0) (ed_var rfl t1) (dB_get hi))))) k

-- slots 0:box 1:one 2:other 3:ballot
abbrev s_lead : Stmt := top 5
theorem sc_lead : FnScope ["box", "one", "other", "ballot"] ["box", "one", "other"] (defScope s_lead) := ⟨rfl, rfl, rfl, by decide +kernel, rfl, by decide +kernel, by decide +kernel⟩
theorem ok_lead (B : Bt mg) (C_sign : Cal P w K mg base 1 "sign" (SpR R_sign) []) (F : DefAt K mg "lead" s_lead ["box", "one", "other"]) : Cal P w K mg base 2 "lead" (SpR R_lead) [] := by
  refine cal_ok F sc_lead (fun vs H Q E h => h.len (n := 3) fun ds d ⟨_, _, _, _, e, _⟩ => by rw [e]; rfl) (fun f cdv A outer s H vs Q E hr h => ?_)
  obtain ⟨ds, d, tv, ⟨n, bs, i, j, rfl, wf, hi, hj, rfl⟩, k⟩ := h
  obtain ⟨v0, v1, v2, rfl, t0, t1, t2⟩ := tv.e3
  refine ⟨_, ((pss_one (ps_ret (pe_callB (id := "sum") (sumK (K := K) rfl rfl) (by rfl) B.sum (by decide +kernel) (pa_cons (pe_lc (own := [("ballot", 3)]) (by rfl) sc_lead.nd (pi_tupK (K := K) rfl (pe_ix (ix_tupK (K := K) rfl) (pv 0) pe_int (fun _ _ => rfl))) (blkOk_by (by rfl)) (fun _ _ _ _ _ => (pg_name (i := 3) sc_lead.nd rfl (by first | exact Or.inl rfl | exact Or.inr rfl))) (fun _ _ _ _ _ => pts_nil) (fun _ _ _ _ _ => (pe_c C_sign hr (by decide) (by rfl) (pa_cons (pv 3) (pa_cons (pv 1) (pa_cons (pv 2) pa_nil)))))) pa_nil))))), ?_⟩
  refine sd_ret ?_ k
  refine ed_sum (ns := bs.map fun b => sgnAt b i j) ?_
  rw [List.map_map]
  refine el_lcT0 (l := bs) (enc := dB) _ (ed_ix (k := 1) (ed_var rfl t0) ed_int rfl) (by have := wf.len; omega) (fun _ => rfl) fun x b H1 ex hb r => ?_
  have hl := wf.each b hb
  exact ed_call (ea_cons (ed_var rfl r) (ea_cons (ed_var rfl (t1.ex ex)) (ea_cons (ed_var rfl (t2.ex ex)) ea_nil))) ⟨b, i, j, rfl, by omega, by omega, rfl⟩

-- slots 0:box 1:one 2:other
abbrev s_table : Stmt := top 6
theorem sc_table : FnScope ["box", "one", "other"] ["box"] (defScope s_table) := ⟨rfl, rfl, rfl, by decide +kernel, rfl, by decide +kernel, by decide +kernel⟩
theorem ok_table (B : Bt mg) (C_lead : Cal P w K mg base 2 "lead" (SpR R_lead) []) (F : DefAt K mg "table" s_table ["box"]) : Cal P w K mg base 3 "table" (SpR R_table) [] := by
  refine cal_ok F sc_table (fun vs H Q E h => h.len (n := 1) fun ds d ⟨_, _, e, _⟩ => by rw [e]; rfl) (fun f cdv A outer s H vs Q E hr h => ?_)
  obtain ⟨ds, d, tv, ⟨n, bs, rfl, wf, rfl⟩, k⟩ := h
  obtain ⟨v0, rfl, t0⟩ := tv.e1
  refine ⟨_, ((pss_one (ps_ret (pe_callTy (T := "tuple") (tupleK (K := K) rfl) (by rfl) B.tuple (by decide +kernel) (pa_cons (pe_lc (own := [("one", 1)]) (by rfl) sc_table.nd (pi_range1 (by rfl) B.range (pa_cons (pe_ix (ix_tupK (K := K) rfl) (pv 0) pe_int (fun _ _ => rfl)) pa_nil)) (blkOk_by (by rfl)) (fun _ _ _ _ _ => (pg_name (i := 1) sc_table.nd rfl (by first | exact Or.inl rfl | exact Or.inr rfl))) (fun _ _ _ _ _ => pts_nil) (fun _ _ _ _ _ => (pe_callTy (T := "tuple") (tupleK (K := K) rfl) (by rfl) B.tuple (by decide +kernel) (pa_cons (pe_lc (own := [("other", 2)]) (by rfl) sc_table.nd (pi_range1 (by rfl) B.range (pa_cons (pe_ix (ix_tupK (K := K) rfl) (pv 0) pe_int (fun _ _ => rfl)) pa_nil)) (blkOk_by (by rfl)) (fun _ _ _ _ _ => (pg_name (i := 2) sc_table.nd rfl (by first | exact Or.inl rfl | exact Or.inr rfl))) (fun _ _ _ _ _ => pts_nil) (fun _ _ _ _ _ => (pe_c C_lead hr (by decide) (by rfl) (pa_cons (pv 0) (pa_cons (pv 1) (pa_cons (pv 2) pa_nil)))))) pa_nil)))) pa_nil))))), ?_⟩
  have hn := wf.many
  refine sd_ret (ed_tupN (el_lcR0 (n := n) _ (ea_cons (ed_ix (k := 0) (ed_var rfl t0) ed_int rfl) ea_nil) (by omega) (fun _ => rfl) fun i H1 x1 hi => ?_)) k
  refine ed_tupN (el_lcR0 (n := n) _ (ea_cons (ed_ix (k := 0) (ed_var rfl (t0.ex x1)) ed_int rfl) ea_nil) (by omega) (fun _ => rfl) fun j H2 x2 hj => ?_)
  exact ed_call (ea_cons (ed_var rfl (t0.ex (x1.trans x2))) (ea_cons (ed_var rfl (.int _)) (ea_cons (ed_var rfl (.int _)) ea_nil))) ⟨n, bs, i, j, rfl, wf, hi, hj, rfl⟩

-- slots 0:self 1:many 2:one 3:other
abbrev s_Urn___init__ : Stmt := inClass (top 8) 0
theorem sc_Urn___init__ : FnScope ["self", "many", "one", "other"] ["self", "many"] (defScope s_Urn___init__) := ⟨rfl, rfl, rfl, by decide +kernel, rfl, by decide +kernel, by decide +kernel⟩
theorem mk_Urn (B : Bt mg) {uC : Addr} (U : W11.UC K mg uC) (F : W11.MkAt K mg uC "Urn" "Urn.__init__" s_Urn___init__ ["self", "many"]) : C8.Mak P w K mg base 1 "Urn" uC (W11.spInit uC) [] := by
  refine W11.mak_ok F sc_Urn___init__ (fun vs H Q E h => ?_) (fun f cdv A outer s H vs Q E hr h => ?_)
  · obtain ⟨H0, p, dx, n, rfl, _⟩ := h
    rfl
  obtain ⟨H0, p, dx, n, rfl, hp, e0, np, hn1, hn, k⟩ := h
  refine ⟨_, ((pss_cons (ps_fld (pv 0) (pv 1) rfl)
      (pss_cons (ps_fld (pv 0) pe_dnewT rfl)
      (pss_one (ps_fld (pv 0) (pe_lc (own := [("one", 2)]) (by rfl) sc_Urn___init__.nd (pi_range1 (by rfl) B.range (pa_cons (pv 1) pa_nil)) (blkOk_by (by rfl)) (fun _ _ _ _ _ => (pg_name (i := 2) sc_Urn___init__.nd rfl (by first | exact Or.inl rfl | exact Or.inr rfl))) (fun _ _ _ _ _ => pts_nil) (fun _ _ _ _ _ => (pe_lc (own := [("other", 3)]) (by rfl) sc_Urn___init__.nd (pi_range1 (by rfl) B.range (pa_cons (pv 1) pa_nil)) (blkOk_by (by rfl)) (fun _ _ _ _ _ => (pg_name (i := 3) sc_Urn___init__.nd rfl (by first | exact Or.inl rfl | exact Or.inr rfl))) (fun _ _ _ _ _ => pts_nil) (fun _ _ _ _ _ => pe_int)))) rfl))))), ?_⟩
  refine ⟨_, rfl, _, rfl, p, uC, dx, [], rfl, hp, U.cl, U.nM, by show 0 < 1000; decide, ?_⟩
  intro d hd
  have npd : p ≠ d := ne_of_none upd_same hd
  refine ⟨_, rfl, p, uC, dx, _, rfl, by rw [upd_ne npd]; exact upd_same, U.cl, U.nC, by show 1 < 1000; decide, ?_⟩
  have x1 : Ex H0 (upd H p (.ins uC dx (putF "many" (.int (n : Int)) []))) := Ex.mut e0 np hp
  have x2 := x1.trans (Ex.new (o := .dT []) hd)
  have x3 : Ex H0 (upd (upd (upd H p (.ins uC dx (putF "many" (.int (n : Int)) []))) d (.dT [])) p (.ins uC dx (putF "counts" (.ref d) (putF "many" (.int (n : Int)) [])))) := Ex.mut x2 np (by rw [upd_ne npd]; exact upd_same)
  have nd0 : Nw H0 d := x1.back (.of hd)
  refine W11.sm_fld (i := 0) (a := p) (m := n) (n := n) (M := fun _ _ => 0) (W11.em_lcR (n := n) (m := n) (fun _ _ => 0) (ea_cons (ed_var rfl (.int _)) ea_nil) (by omega) (fun _ => rfl) (fun i H1 e1 hi => el_lcR0 (n := n) (fun _ => .int 0) (ea_cons (ed_var rfl (.int _)) ea_nil) (by omega) (fun _ => rfl) fun j H2 e2 hj => ed_int)) rfl upd_same U.cl U.nL ?_ fun l H4 hl x4 hM => ?_
  · have := W11.n1
    show (putF "counts" (V.ref d) [("many", V.int (n : Int))]).length < 1000
    unfold putF
    split
    · simp
    · simp [putF]
  obtain ⟨ps, m1, m2, m3, m4, m5, m6⟩ := hM
  have npl : p ≠ l := hl.ne upd_same
  refine k _ d l (Ex.mut (x3.trans x4) np (x4.at upd_same)) ⟨⟨dx, upd_same⟩, ?_, ⟨ps, ?_, m2, m3, m4, fun q hq => x3.back (m5 q hq), fun i q hq => ?_⟩, np, nd0, x3.back hl, List.nodup_nil, fun _ _ => rfl, by show 0 ≤ 50; decide⟩
  · rw [upd_ne npd.symm]
    refine x4.at ?_
    rw [upd_ne npd.symm]
    exact upd_same
  · rw [upd_ne npl.symm]
    exact m1
  · have : p ≠ q := (m5 q (List.mem_of_getElem? hq)).ne upd_same
    rw [upd_ne this.symm]
    exact m6 i q hq

-- slots 0:self 1:ballot 2:by 3:one 4:other
abbrev s_Urn_add : Stmt := inClass (top 8) 1
theorem sc_Urn_add : FnScope ["self", "ballot", "by", "one", "other"] ["self", "ballot", "by"] (defScope s_Urn_add) := ⟨rfl, rfl, rfl, by decide +kernel, rfl, by decide +kernel, by decide +kernel⟩
theorem met_add (B : Bt mg) {uC : Addr} (U : W11.UC K mg uC) (C_sign : Cal P w K mg base 1 "sign" (SpR R_sign) []) (F : W11.MetAt K uC "add" "Urn.add" s_Urn_add ["self", "ballot", "by"]) : C8.Met P w K mg base 2 uC "add" (W11.spAdd uC) [] := by
  refine W11.met_ok U.cl F sc_Urn_add (fun vs H Q E h => ?_) (fun f cdv A outer s H vs Q E hr h => ?_)
  · obtain ⟨H0, p, d, l, n, ks, c, M, v, b, y, rfl, _⟩ := h
    rfl
  obtain ⟨H0, p, d, l, n, ks, c, M, v, b, y, rfl, hb, hbl, hn, hy1, hy2, e0, hu, hk, k⟩ := h
  refine ⟨_, ((pss_cons (ps_dput (hu_of hr) (pe_fld (pv 0) rfl) (pv 1) (pe_op op_add (pe_dget2 (hu_of hr) (pe_fld (pv 0) rfl) (pv 1) pe_int ⟨rfl, rfl, rfl, rfl⟩) (pv 2)) rfl)
      (pss_one (ps_for PassesOwn.never rfl (pi_range1 (by rfl) B.range (pa_cons (pe_fld (pv 0) rfl) pa_nil)) (pg_name (i := 3) sc_Urn_add.nd rfl (by first | exact Or.inl rfl | exact Or.inr rfl)) (pss_one (ps_for PassesOwn.never rfl (pi_range1 (by rfl) B.range (pa_cons (pe_fld (pv 0) rfl) pa_nil)) (pg_name (i := 4) sc_Urn_add.nd rfl (by first | exact Or.inl rfl | exact Or.inr rfl)) (pss_one (ps_asg (pe_op op_add (pe_ix (ix_listK (K := K) rfl) (pe_ix (ix_listK (K := K) rfl) (pe_fld (pv 0) rfl) (pv 3) (fun _ _ => rfl)) (pv 4) (fun _ _ => rfl)) (pe_op op_mul (pv 2) (pe_c C_sign hr (by decide) (by rfl) (pa_cons (pv 1) (pa_cons (pv 3) (pa_cons (pv 4) pa_nil)))))) (pg_sub (pe_ix (ix_listK (K := K) rfl) (pe_fld (pv 0) rfl) (pv 3) (fun _ _ => rfl)) (pv 4) set_list))))))))), ?_⟩
  refine W11.qd_cput (i := 1) (z := c b + y) U e0 hu hk (fun _ _ => ev_var rfl) rfl hb (ed_I (W11.ed_cget U hu (ev_var rfl) rfl hb) (ed_var rfl (.int _))) fun H2 e2 hu2 tx2 => ?_
  generalize W11.addK ks b = ks' at hu2 k
  generalize W11.upC c b (c b + y) = c' at hu2 k
  have rb := hb.rp.up tx2
  refine sd_forR (n := n) (ea_cons (W11.ed_many U (ev_var rfl) hu2) ea_nil) (by omega) (fun i σ' H' => ∃ x3 x4, σ' = [some (.ref p), some v, some (.int y), x3, x4] ∧ Ex H0 H' ∧ Tx H2 H' ∧ W11.Urn H0 H' uC p d l n ks' c' (W11.upTo M y b i 0))
    (fun H3 e3 => ⟨none, none, rfl, e2.trans e3, .of e3, (hu2.ex e3).congrM fun i j _ _ => W11.upTo_start M y b i j⟩) ?_ ?_
  · rintro i σ' H' hi ⟨x3, x4, rfl, ex, tx, hu3⟩
    refine sd_forR (n := n) (ea_cons (W11.ed_many U (ev_var rfl) hu3) ea_nil) (by omega) (fun j σ' H' => ∃ x4, σ' = [some (.ref p), some v, some (.int y), some (.int (i : Int)), x4] ∧ Ex H0 H' ∧ Tx H2 H' ∧ W11.Urn H0 H' uC p d l n ks' c' (W11.upTo M y b i j))
      (fun H3 e3 => ⟨_, rfl, ex.trans e3, tx.trans (.of e3), hu3.ex e3⟩) ?_ ?_
    · rintro j σ' H' hj ⟨x4, rfl, ex, tx, hu4⟩
      have hs : ED (tCall (SpR R_sign) [] C8.E0 (tCons (tVar 1) (tCons (tVar 3) (tCons (tVar 4) tNil)))) ([some (.ref p), some v, some (.int y), some (.int (i : Int)), some (.int (j : Int))] : L2.St) H' (.int (sgnAt b i j)) :=
        ed_call (ea_cons (ed_var rfl (rb.up tx)) (ea_cons (ed_var rfl (.int _)) (ea_cons (ed_var rfl (.int _)) ea_nil))) ⟨b, i, j, rfl, by omega, by omega, rfl⟩
      refine W11.sd_msetE (H0 := H0) (i := i) (j := j) (z := W11.upTo M y b i j i j + y * sgnAt b i j) ex (fun H1 x1 => W11.ev_leads U (ev_var rfl) (hu4.ex x1)) hu4.ma (ed_I (W11.ed_mgetE (W11.ev_leads U (ev_var rfl) hu4) hu4.ma (ed_var rfl (.int _)) (ed_var rfl (.int _)) hi hj) (ed_IC (ed_var rfl (.int _)) hs (.inl ⟨by omega, by omega⟩))) (fun _ _ => ed_var rfl (.int _)) (fun _ _ => ed_var rfl (.int _)) hi hj fun H5 e5 hM tx5 keep => ?_
      obtain ⟨dx, ho⟩ := hu4.ob
      exact ⟨_, rfl, e5, tx.trans tx5, ⟨dx, keep _ _ ho True.intro (fun _ z => nomatch z)⟩, keep _ _ hu4.dc True.intro (fun _ z => nomatch z), hM.congr fun a e _ _ => W11.upTo_step, hu4.np, hu4.nd, hu4.nl, hu4.dup, hu4.out, hu4.few⟩
    · rintro σ' H' ⟨x4, rfl, ex, tx, hu4⟩
      exact ⟨_, _, rfl, ex, tx, hu4.congrM fun a e _ he => W11.upTo_next he⟩
  · rintro σ' H' ⟨x3, x4, rfl, ex, tx, hu3⟩
    exact k H' ex (hu3.congrM fun a e ha _ => W11.upTo_end ha)

-- slots 0:self 1:ballot
abbrev s_Urn_put : Stmt := inClass (top 8) 2
theorem sc_Urn_put : FnScope ["self", "ballot"] ["self", "ballot"] (defScope s_Urn_put) := ⟨rfl, rfl, rfl, by decide +kernel, rfl, by decide +kernel, by decide +kernel⟩
theorem met_put (B : Bt mg) {uC : Addr} (U : W11.UC K mg uC) (M_add : C8.Met P w K mg base 2 uC "add" (W11.spAdd uC) []) (F : W11.MetAt K uC "put" "Urn.put" s_Urn_put ["self", "ballot"]) : C8.Met P w K mg base 3 uC "put" (W11.spPut uC) [] := by
  refine W11.met_ok U.cl F sc_Urn_put (fun vs H Q E h => ?_) (fun f cdv A outer s H vs Q E hr h => ?_)
  · obtain ⟨H0, p, d, l, n, ks, c, M, v, b, rfl, _⟩ := h
    rfl
  obtain ⟨H0, p, d, l, n, ks, c, M, v, b, rfl, hb, hbl, hn, e0, hu, hk, k⟩ := h
  refine ⟨_, ((pss_one (ps_expr (pe_mt M_add hr (by decide) (pv 0) (pa_cons (pv 1) (pa_cons pe_int pa_nil)))))), ?_⟩
  obtain ⟨dx, ho⟩ := hu.ob
  exact ⟨_, rfl, p, dx, _, rfl, ho, W11.flds_no n d l (by decide +kernel) (by decide +kernel) (by decide +kernel), _, rfl, H0, p, d, l, n, ks, c, M, v, b, 1, rfl, hb, hbl, hn, by decide, by decide, e0, hu, hk, fun H' e' hu' => k H' e' hu'⟩

-- slots 0:self 1:ballot
abbrev s_Urn_take : Stmt := inClass (top 8) 3
theorem sc_Urn_take : FnScope ["self", "ballot"] ["self", "ballot"] (defScope s_Urn_take) := ⟨rfl, rfl, rfl, by decide +kernel, rfl, by decide +kernel, by decide +kernel⟩
theorem metX_take (B : Bt mg) {nW nN : Addr} (N7 : W7.NB K mg nW nN) {uC : Addr} (U : W11.UC K mg uC) (M_add : C8.Met P w K mg base 2 uC "add" (W11.spAdd uC) []) (F : W11.MetAt K uC "take" "Urn.take" s_Urn_take ["self", "ballot"]) : W11.MetX P w K mg base 3 uC "take" (W11.spTakeX uC nN) := by
  refine W11.metX_ok U.cl F sc_Urn_take (fun vs H Q E h => ?_) (fun f cdv A outer s H vs Q E hr h => ?_)
  · obtain ⟨H0, p, d, l, n, ks, c, M, v, b, rfl, _⟩ := h
    rfl
  obtain ⟨H0, p, d, l, n, ks, c, M, v, b, rfl, hb, hbl, hn, e0, hu, hk, hca⟩ := h
  refine ⟨_, ((pss_cons (ps_if (pt_cmpR op_eq (pe_dget2 (hu_of hr) (pe_fld (pv 0) rfl) (pv 1) pe_int ⟨rfl, rfl, rfl, rfl⟩) pe_int (nomark _)) (pss_one (ps_raise rfl (takes_of rfl rfl rfl rfl) (pmk_own PySem.F.excBase_ValueError N7.x N7.gN N7.k (raises_own N7.b N7.t) rfl))) pss_nil)
      (pss_one (ps_expr (pe_mt M_add hr (by decide) (pv 0) (pa_cons (pv 1) (pa_cons (pe_un un_neg pe_int) pa_nil))))))), ?_⟩
  refine q_when (b := decide (c b = 0)) (et_d (ed_eqI (W11.ed_cget U hu (ev_var rfl) rfl hb) ed_int)) (fun h H1 e1 => ?_) (fun h H1 e1 => ?_)
  · have h := of_decide_eq_true h
    rcases hca with ⟨_, k⟩ | ⟨hne, _⟩
    · exact k H1 e1
    · exact (hne h).elim
  · have h := of_decide_eq_false h
    rcases hca with ⟨h0, _⟩ | ⟨_, k⟩
    · exact (h h0).elim
    · have hu1 := hu.ex e1
      obtain ⟨dx, ho⟩ := hu1.ob
      exact ⟨_, rfl, p, dx, _, rfl, ho, W11.flds_no n d l (by decide +kernel) (by decide +kernel) (by decide +kernel), _, rfl, 1, rfl, H0, p, d, l, n, ks, c, M, v, b, -1, rfl, hb.ex e1, hbl, hn, by decide, by decide, e0.trans e1, hu1, hk, fun H' e' hu' => k H' e' hu'⟩

-- slots 0:self 1:row
abbrev s_Urn_counted : Stmt := inClass (top 8) 4
theorem sc_Urn_counted : FnScope ["self", "row"] ["self"] (defScope s_Urn_counted) := ⟨rfl, rfl, rfl, by decide +kernel, rfl, by decide +kernel, by decide +kernel⟩
theorem met_counted (B : Bt mg) {uC : Addr} (U : W11.UC K mg uC) (F : W11.MetAt K uC "counted" "Urn.counted" s_Urn_counted ["self"]) : C8.Met P w K mg base 1 uC "counted" (W11.spCounted uC) [] := by
  refine W11.met_ok U.cl F sc_Urn_counted (fun vs H Q E h => ?_) (fun f cdv A outer s H vs Q E hr h => ?_)
  · obtain ⟨H0, p, d, l, n, ks, c, M, rfl, _⟩ := h
    rfl
  obtain ⟨H0, p, d, l, n, ks, c, M, rfl, hu, hn, k⟩ := h
  refine ⟨_, ((pss_one (ps_ret (pe_callTy (T := "tuple") (tupleK (K := K) rfl) (by rfl) B.tuple (by decide +kernel) (pa_cons (pe_lc (own := [("row", 1)]) (by rfl) sc_Urn_counted.nd (pi_listK (K := K) rfl (pe_fld (pv 0) rfl)) (blkOk_by (by rfl)) (fun _ _ _ _ _ => (pg_name (i := 1) sc_Urn_counted.nd rfl (by first | exact Or.inl rfl | exact Or.inr rfl))) (fun _ _ _ _ _ => pts_nil) (fun _ _ _ _ _ => (pe_callTy (T := "tuple") (tupleK (K := K) rfl) (by rfl) B.tuple (by decide +kernel) (pa_cons (pv 1) pa_nil)))) pa_nil))))), ?_⟩
  refine sd_ret (d := Wx.dLs n M) (ed_tupN (W7.el_lcM (H0 := H0) (m := n) (n := n) (M := M) (fun i => .tuple ((List.range n).map fun j => .int (M i j))) (W11.ev_leads U (ev_var rfl) hu) hu.ma (by omega) (fun _ => rfl) fun q i H3 e3 hi hL => ed_tupL (ev_var rfl) hL)) fun v H3 e3 r => k v H3 e3 r

-- slots 0:self 1:ballots 2:ballot 3:k
abbrev s_Urn_box : Stmt := inClass (top 8) 5
theorem sc_Urn_box : FnScope ["self", "ballots", "ballot", "k"] ["self"] (defScope s_Urn_box) := ⟨rfl, rfl, rfl, by decide +kernel, rfl, by decide +kernel, by decide +kernel⟩
theorem met_box (B : Bt mg) {uC : Addr} (U : W11.UC K mg uC) (F : W11.MetAt K uC "box" "Urn.box" s_Urn_box ["self"]) : C8.Met P w K mg base 1 uC "box" (W11.spUbox uC) [] := by
  refine W11.met_ok U.cl F sc_Urn_box (fun vs H Q E h => ?_) (fun f cdv A outer s H vs Q E hr h => ?_)
  · obtain ⟨H0, p, d, l, n, ks, c, M, S, rfl, _⟩ := h
    rfl
  obtain ⟨H0, p, d, l, n, ks, c, M, S, rfl, hu, hn, hn1, g, hS, hs, hc, k⟩ := h
  refine ⟨_, ((pss_cons (ps_set (i := 1) sc_Urn_box.nd rfl (by first | exact Or.inl rfl | exact Or.inr rfl) (pe_lst pa_nil))
      (pss_cons (ps_for PassesOwn.never rfl (pi_listK (K := K) rfl (pe_callB (id := "sorted") (W11.cr_sortedDT (d := n) (B := 100) hn1 rfl) (by rfl) B.sorted (by decide +kernel) (pa_cons (pe_fld (pv 0) rfl) pa_nil))) (pg_name (i := 2) sc_Urn_box.nd rfl (by first | exact Or.inl rfl | exact Or.inr rfl)) (pss_one (ps_expr (pe_bmK (K := K) rfl PySem.F.plainAttrs_list PySem.F.slot_list_extend PySem.F.type_list_extend mt_extend (pv 1) (pa_cons (pe_lc (own := [("k", 3)]) (by rfl) sc_Urn_box.nd (pi_range1 (by rfl) B.range (pa_cons (pe_dget (hu_of hr) (pe_fld (pv 0) rfl) (pv 2) (fun _ _ => rfl)) pa_nil)) (blkOk_by (by rfl)) (fun _ _ _ _ _ => (pg_name (i := 3) sc_Urn_box.nd rfl (by first | exact Or.inl rfl | exact Or.inr rfl))) (fun _ _ _ _ _ => pts_nil) (fun _ _ _ _ _ => (pv 2))) pa_nil)))))
      (pss_one (ps_ret (pe_tup (pa_cons (pe_fld (pv 0) rfl) (pa_cons (pe_callTy (T := "tuple") (tupleK (K := K) rfl) (by rfl) B.tuple (by decide +kernel) (pa_cons (pv 1) pa_nil)) pa_nil)))))))), ?_⟩
  refine qd_asgL (ds := []) (el_lst ea_nil (by decide)) fun q H1 hq e1 hL => ?_
  refine W11.ev_counts U (ev_var rfl) (hu.ex e1) H1 (.refl _) _ fun H2 x2 => ?_
  have e2 := e1.trans x2
  have hu2 := hu.ex e2
  have hfew := hu.few
  refine ⟨d, _, ks, rfl, hu2.dc, ?_, by omega, g, fun L pl pm pw hLt hpl => ?_⟩
  · unfold W11.kvsOf
    rw [List.map_map]
    rfl
  have eS : L.map (·.2) = S := srt_uniq (n := n) (pm.trans hS.symm) (fun b hb => g b (pm.mem_iff.mp hb)) (List.pairwise_map.mpr pw) hs
  have xp : Ex H2 (upd H2 pl (.lst (L.map fun q => V.ref q.1))) := Ex.new hpl
  have hLq : LAt H2 q [] := hL.ex x2
  have nqp : q ≠ pl := by
    obtain ⟨vs, h, _⟩ := hLq
    exact ne_of_none h hpl
  have hSl : S.length ≤ 50 := by rw [hS.length_eq]; exact hfew
  refine ⟨pl, rfl, ⟨_, SqL.of upd_same⟩, for_list (K := K) (a := pl) (xs := L.map fun q => V.ref q.1) (fun i σ' H' => ∃ x2 x3, σ' = [some (.ref p), some (.ref q), x2, x3] ∧ Ex H H' ∧ LAt H' q ((flat (S.take i) c).map dB) ∧ But q (upd H2 pl (.lst (L.map fun q => V.ref q.1))) H')
    ⟨none, none, rfl, e2.trans xp, hLq.ex xp, fun a o _ h _ => h⟩ (fun i σ' H' _ ⟨_, _, _, _, _, bt⟩ => SqL.of (bt.at upd_same nqp.symm)) ?_ ?_⟩
  · rintro i x σ' H' hi ⟨x2', x3', rfl, ex, hQ, bt⟩
    rw [List.getElem?_map] at hi
    cases hli : L[i]? with
    | none => rw [hli] at hi; cases hi
    | some r =>
      rw [hli] at hi
      obtain rfl : V.ref r.1 = x := Option.some.inj hi
      have hrm := List.mem_of_getElem? hli
      have hSi : S[i]? = some r.2 := by rw [← eS, List.getElem?_map, hli]; rfl
      have hrk : r.2 ∈ ks := hS.mem_iff.mp (List.mem_of_getElem? hSi)
      have ht := xp.at (hLt r hrm)
      have nrq : r.1 ≠ q := fun e => by
        obtain ⟨vs, h, _⟩ := hLq
        have h2 := hLt r hrm
        rw [e, h] at h2
        cases h2
      have htk : W11.Tk H' (.ref r.1) r.2 := ⟨r.1, rfl, bt.at ht nrq⟩
      have hu' := hu.ex ex
      have hcb := hc r.2
      have hfl : (flat (S.take i) c).length ≤ 100 * (S.take i).length := W11.flat_len hc _
      have htl : (S.take i).length ≤ S.length := by rw [List.length_take]; omega
      refine Wy.sd_ext (H0 := H) (ds := (flat (S.take i) c).map dB) (es := (List.replicate (c r.2).toNat r.2).map dB) ex hq hQ (ev_var rfl) (EL.is (el_lcR0 (n := (c r.2).toNat) (fun _ => dB r.2) (ea_cons ((W11.ed_cat U hu' (ev_var rfl) rfl htk hrk).is (congrArg PyData.int (by omega))) ea_nil) (by omega) (fun _ => rfl) fun j H3 e3 hj => ed_var rfl (htk.rp.ex e3)) ?_) ?_ fun H3 e3 hL3 tx3 bt3 => ?_
      · rw [List.map_replicate, List.map_const', List.length_range]
      · rw [List.length_map, List.length_map, List.length_replicate]
        omega
      · refine ⟨_, _, rfl, e3, ?_, fun a o ha h nb => bt3 a o ha (bt a o ha h nb) nb⟩
        rw [List.take_add_one, hSi]
        show LAt H3 q ((flat (S.take i ++ [r.2]) c).map dB)
        rw [W11.flat_app, List.map_append]
        exact hL3
  · rintro σ' H' ⟨x2', x3', rfl, ex, hQ, bt⟩
    have e : S.take (L.map fun q => V.ref q.1).length = S := List.take_of_length_le (by rw [← eS, List.length_map, List.length_map]; omega)
    rw [e] at hQ
    exact sd_ret (d := dBox n (flat S c)) (ed_tup (ea_cons (W11.ed_many U (ev_var rfl) (hu.ex ex)) (ea_cons (ed_tupL (ev_var rfl) hQ) ea_nil)) (by show 2 ≤ 100000; decide)) fun v H3 e3 r => k v H3 (ex.trans e3) r

-- slots 0:_law_script 1:_law_k
abbrev s__law_cell : Stmt := top 10
theorem sc__law_cell : FnScope ["_law_script", "_law_k"] ["_law_script", "_law_k"] (defScope s__law_cell) := ⟨rfl, rfl, rfl, by decide +kernel, rfl, by decide +kernel, by decide +kernel⟩
theorem ok__law_cell (B : Bt mg) (F : DefAt K mg "_law_cell" s__law_cell ["_law_script", "_law_k"]) : Cal P w K mg base 1 "_law_cell" (Wm.spCell K) [] := by
  refine cal_ok F sc__law_cell (fun vs H Q E h => ?_) (fun f cdv A outer s H vs Q E hr h => ?_)
  · obtain ⟨a, ns, k, rfl, _⟩ := h
    rfl
  · obtain ⟨a, ns, k, rfl, hS, q⟩ := h
    refine ⟨_, ((pss_cons (ps_if (pt_cmpR op_lt (pv 1) (pe_callB (id := "len") (lenK (K := K) rfl) (by rfl) B.len (by decide +kernel) (pa_cons (pv 0) pa_nil)) (nomark _)) (pss_one (ps_ret (pe_ix (ix_listK (K := K) rfl) (pv 0) (pv 1) (fun _ _ => rfl)))) pss_nil)
      (pss_one (ps_ret pe_int)))), ?_⟩
    refine ⟨_, rfl, _, rfl, a, _, rfl, .inl hS, _, _, rfl, rfl, _, rfl, ?_⟩
    rw [List.length_map]
    refine ite2 (fun h => ?_) (fun h => ?_)
    · have hlt : k < ns.length := by
        have := of_decide_eq_true h
        omega
      refine ⟨_, rfl, _, rfl, a, _, _, .int (ns.getD k 0), rfl, rfl, hS, atI_nat ?_, q⟩
      rw [List.getElem?_map, List.getElem?_eq_getElem hlt]
      simp [hlt]
    · have hge : ns.length ≤ k := by
        have : ¬ ((k : Int) < (ns.length : Int)) := fun z => h (decide_eq_true z)
        omega
      have e : ns.getD k 0 = 0 := by simp [List.getElem?_eq_none hge]
      rw [e] at q
      exact q

-- slots 0:_law_cell_here 1:_law_prime 2:_law_many
abbrev s__law_mix : Stmt := top 11
theorem sc__law_mix : FnScope ["_law_cell_here", "_law_prime", "_law_many"] ["_law_cell_here", "_law_prime", "_law_many"] (defScope s__law_mix) := ⟨rfl, rfl, rfl, by decide +kernel, rfl, by decide +kernel, by decide +kernel⟩
theorem ok__law_mix (B : Bt mg) (F : DefAt K mg "_law_mix" s__law_mix ["_law_cell_here", "_law_prime", "_law_many"]) : Cal P w K mg base 1 "_law_mix" (SpR R_mix) [] := by
  refine cal_ok F sc__law_mix (fun vs H Q E h => h.len (n := 3) fun ds d ⟨_, _, _, e, _⟩ => by rw [e]; rfl) (fun f cdv A outer s H vs Q E hr h => ?_)
  obtain ⟨ds, d, tv, ⟨c, p, m, rfl, hp, hm, rfl⟩, k⟩ := h
  obtain ⟨v0, v1, v2, rfl, t0, t1, t2⟩ := tv.e3
  refine ⟨_, ((pss_one (ps_ret (pe_op op_mod (pe_op op_mod (pe_op op_mul (pv 0) pe_int) (pv 1)) (pv 2))))), ?_⟩
  exact sd_ret (ed_IC (ed_IC (ed_IC (ed_var rfl t0) ed_int (.inr ⟨by decide, by decide⟩)) (ed_var rfl t1) hp) (ed_var rfl t2) hm) k

-- slots 0:_law_cell_here 1:_law_many 2:_law_way 3:_law_places 4:_law_left 5:_law_k
abbrev s__law_ballot : Stmt := top 12
theorem sc__law_ballot : FnScope ["_law_cell_here", "_law_many", "_law_way", "_law_places", "_law_left", "_law_k"] ["_law_cell_here", "_law_many", "_law_way"] (defScope s__law_ballot) := ⟨rfl, rfl, rfl, by decide +kernel, rfl, by decide +kernel, by decide +kernel⟩
theorem ok__law_ballot (B : Bt mg) (C__law_mix : Cal P w K mg base 1 "_law_mix" (SpR R_mix) []) (F : DefAt K mg "_law_ballot" s__law_ballot ["_law_cell_here", "_law_many", "_law_way"]) : Cal P w K mg base 2 "_law_ballot" W11.spBallotT [] := by
  refine cal_ok F sc__law_ballot (fun vs H Q E h => ?_) (fun f cdv A outer s H vs Q E hr h => ?_)
  · obtain ⟨c, n, wy, rfl, _⟩ := h
    rfl
  obtain ⟨c, n, wy, rfl, h1, h2, h3, k⟩ := h
  refine ⟨_, ((pss_cons (ps_setLc (i := 3) (own := [("_law_k", 5)]) (by rfl) sc__law_ballot.nd rfl rfl (sw_true rfl rfl rfl (by decide +kernel)) (pi_range1 (by rfl) B.range (pa_cons (pv 1) pa_nil)) (blkOk_by (by rfl)) (fun _ _ _ _ _ => (pg_name (i := 5) sc__law_ballot.nd rfl (by first | exact Or.inl rfl | exact Or.inr rfl))) (fun _ _ _ _ _ => pts_nil) (fun _ _ _ _ _ => (pe_c C__law_mix hr (by decide) (by rfl) (pa_cons (pe_op op_add (pv 0) (pe_op op_mul pe_int (pv 5))) (pa_cons pe_int (pa_cons (pe_ix (ix_listK (K := K) rfl) (pe_lst (pa_cons (pv 1) (pa_cons pe_int (pa_cons pe_int pa_nil)))) (pv 2) (fun _ _ => rfl)) pa_nil))))))
      (pss_cons (ps_if (PW.pt (pw_and (pt_cmpR op_eq (pv 2) pe_int (nomark _)) (pw_and1 (pt_cmpR op_eq (pe_op op_mod (pv 0) pe_int) pe_int (nomark _))))) (pss_cons (ps_set (i := 4) sc__law_ballot.nd rfl (by first | exact Or.inl rfl | exact Or.inr rfl) (pe_listRg rfl (by rfl) B.list (prg_1 (by rfl) B.range (pv 1))))
      (pss_one (ps_setLc (i := 3) (own := [("_law_k", 5)]) (by rfl) sc__law_ballot.nd rfl rfl (sw_true rfl rfl rfl (by decide +kernel)) (pi_range1 (by rfl) B.range (pa_cons (pv 1) pa_nil)) (blkOk_by (by rfl)) (fun _ _ _ _ _ => (pg_name (i := 5) sc__law_ballot.nd rfl (by first | exact Or.inl rfl | exact Or.inr rfl))) (fun _ _ _ _ _ => pts_nil) (fun _ _ _ _ _ => (pe_bmK (K := K) rfl PySem.F.plainAttrs_list PySem.F.slot_list_pop PySem.F.type_list_pop mt_popAt (pv 4) (pa_cons (pe_c C__law_mix hr (by decide) (by rfl) (pa_cons (pe_op op_add (pv 0) (pe_op op_mul pe_int (pv 5))) (pa_cons pe_int (pa_cons (pe_op op_sub (pv 1) (pv 5)) pa_nil)))) pa_nil)))))) pss_nil)
      (pss_one (ps_ret (pe_callTy (T := "tuple") (tupleK (K := K) rfl) (by rfl) B.tuple (by decide +kernel) (pa_cons (pv 3) pa_nil))))))), ?_⟩
  have hm : ∃ m : Int, 0 < m ∧ m ≤ 100 ∧ [PyData.int (n : Int), .int 2, .int 100][wy]? = some (.int m) := by
    match wy, h3 with
    | 0, _ => exact ⟨n, by omega, by omega, rfl⟩
    | 1, _ => exact ⟨2, by omega, by omega, rfl⟩
    | 2, _ => exact ⟨100, by omega, by omega, rfl⟩
  obtain ⟨m, m0, m1, hm⟩ := hm
  have fin : ∀ (p : Addr) (ys : List Int) (σ' : L2.St) (H' : Hp), σ'[3]? = some (some (.ref p)) → Ex H H' → LAt H' p (ys.map PyData.int) → ys.length = n → Pl ys → tRet (tCB (Wd.rTupOf K) (tCons (tVar 3) tNil)) { nx := fun _ H' => Q .non H', rt := Q } σ' H' := by
    intro p ys σ' H' hs ex hp hl hy
    obtain ⟨vs, hv, rs⟩ := hp
    exact ⟨_, hs, p, vs, rfl, .inl ⟨SqL.of hv, fun b hb => k (.ref b) ys _ (ex.trans (Ex.new hb)) ⟨b, rfl, by rw [upd_same, rs.intsE]⟩ hl hy⟩⟩
  refine qd_asgL (ds := ((List.range n).map fun i : Nat => (c + 31 * (i : Int)) * 48271 % 9973 % m).map PyData.int) ?_ fun p H1 hp e1 r => ?_
  · rw [List.map_map]
    refine el_lcR0 (n := n) _ (ea_cons (ed_var rfl (.int _)) ea_nil) (by omega) (fun _ => rfl) fun i H1 x1 hi => ?_
    refine ed_call (ea_cons (ed_I (ed_var rfl (.int _)) (ed_IC ed_int (ed_var rfl (.int _)) (.inl ⟨by decide, by decide⟩))) (ea_cons ed_int (ea_cons (ed_ixN (el_lst (ea_cons (ed_var rfl (.int _)) (ea_cons ed_int (ea_cons ed_int ea_nil))) (by show 3 ≤ 100000; decide)) (ed_var rfl (.int _)) hm) ea_nil))) ⟨_, _, _, rfl, by decide, m0, rfl⟩
  · have done1 : ∀ H2, Ex H1 H2 → tRet (tCB (Wd.rTupOf K) (tCons (tVar 3) tNil)) { nx := fun _ H' => Q .non H', rt := Q } ([some (.int c), some (.int n), some (.int wy), some (.ref p), none, none] : L2.St) H2 := fun H2 e2 =>
      fin p _ _ H2 rfl (e1.trans e2) (r.ex e2) (by simp) (fun x hx => by
        obtain ⟨i, _, rfl⟩ := List.mem_map.mp hx
        have a1 := Int.emod_nonneg ((c + 31 * (i : Int)) * 48271 % 9973) (show m ≠ 0 by omega)
        have a2 := Int.emod_lt_of_pos ((c + 31 * (i : Int)) * 48271 % 9973) m0
        constructor <;> omega)
    refine q_when (b := decide ((wy : Int) = 2) && decide (c % 2 = 0)) ?_ (fun hb H2 e2 => ?_) (fun _ H2 e2 => done1 H2 e2)
    · exact et_and (et_d (ed_eqI (ed_var rfl (.int _)) ed_int)) fun _ => et_d (ed_eqI (ed_IC (ed_var rfl (.int _)) ed_int (by decide)) ed_int)
    · -- _law_left = list(range(_law_many))
      refine qd_asgL (el_rg1 (n := n) (ed_var rfl (.int _)) (by omega)) fun l H3 hl e3 hL => ?_
      obtain ⟨lv, hL1, hL2⟩ := hL
      rw [hL2.intsE] at hL1
      unfold tAsg
      refine pop_all (H0 := H) (p := l) (n := n) (ls := (List.range n).map fun i : Nat => (i : Int)) ((e1.trans e2).trans e3) (fresh_back (e1.trans e2) hl) hL1 (by simp) (by omega) (ea_cons (ed_var rfl (.int _)) ea_nil) (by intro _; rfl) (by intro _; rfl) (fun i H' _ hi => ?_) (fun Dl H' out hD ex hout perm => ?_)
      · refine ⟨(c + 7 * (i : Int)) * 48271 % 9967 % ((n : Int) - (i : Int)), Int.emod_nonneg _ (by omega), Int.emod_lt_of_pos _ (by omega), ?_⟩
        exact ed_call (ea_cons (ed_I (ed_var rfl (.int _)) (ed_IC ed_int (ed_var rfl (.int _)) (.inl ⟨by decide, by decide⟩))) (ea_cons ed_int (ea_cons (ed_I (ed_var rfl (.int _)) (ed_var rfl (.int _))) ea_nil))) ⟨_, _, _, rfl, by decide, by omega, rfl⟩
      · refine fin Dl out _ H' rfl ex ⟨_, hout, RpA.ints out⟩ (by rw [perm.length_eq]; simp) (fun x hx => ?_)
        obtain ⟨i, hi, rfl⟩ := List.mem_map.mp (perm.mem_iff.mp hx)
        have := List.mem_range.mp hi
        constructor <;> omega

-- slots 0:_law_script 1:_law_most 2:_law_many 3:_law_size 4:_law_way 5:_law_ballots 6:_law_k 7:_law_cell_here
abbrev s__law_box : Stmt := top 13
theorem sc__law_box : FnScope ["_law_script", "_law_most", "_law_many", "_law_size", "_law_way", "_law_ballots", "_law_k", "_law_cell_here"] ["_law_script", "_law_most"] (defScope s__law_box) := ⟨rfl, rfl, rfl, by decide +kernel, rfl, by decide +kernel, by decide +kernel⟩
theorem ok__law_box (B : Bt mg) (C__law_cell : Cal P w K mg base 1 "_law_cell" (Wm.spCell K) []) (C__law_mix : Cal P w K mg base 1 "_law_mix" (SpR R_mix) []) (C__law_ballot : Cal P w K mg base 2 "_law_ballot" W11.spBallotT [])
    (F : DefAt K mg "_law_box" s__law_box ["_law_script", "_law_most"]) : Cal P w K mg base 3 "_law_box" (W11.spBoxT K) [] := by
  refine cal_ok F sc__law_box (fun vs H Q E h => ?_) (fun f cdv A outer s H vs Q E hr h => ?_)
  · obtain ⟨a, ns, most, rfl, _⟩ := h
    rfl
  · obtain ⟨a, ns, most, rfl, hS, m1, m2, k⟩ := h
    refine ⟨_, ((pss_cons (ps_set (i := 2) sc__law_box.nd rfl (by first | exact Or.inl rfl | exact Or.inr rfl) (pe_op op_add pe_int (pe_c C__law_mix hr (by decide) (by rfl) (pa_cons (pe_c C__law_cell hr (by decide) (by rfl) (pa_cons (pv 0) (pa_cons pe_int pa_nil))) (pa_cons pe_int (pa_cons (pv 1) pa_nil))))))
      (pss_cons (ps_set (i := 3) sc__law_box.nd rfl (by first | exact Or.inl rfl | exact Or.inr rfl) (pe_c C__law_mix hr (by decide) (by rfl) (pa_cons (pe_c C__law_cell hr (by decide) (by rfl) (pa_cons (pv 0) (pa_cons pe_int pa_nil))) (pa_cons pe_int (pa_cons pe_int pa_nil)))))
      (pss_cons (ps_set (i := 4) sc__law_box.nd rfl (by first | exact Or.inl rfl | exact Or.inr rfl) (pe_c C__law_mix hr (by decide) (by rfl) (pa_cons (pe_c C__law_cell hr (by decide) (by rfl) (pa_cons (pv 0) (pa_cons pe_int pa_nil))) (pa_cons pe_int (pa_cons pe_int pa_nil)))))
      (pss_cons (ps_set (i := 5) sc__law_box.nd rfl (by first | exact Or.inl rfl | exact Or.inr rfl) (pe_lst pa_nil))
      (pss_cons (ps_for PassesOwn.never rfl (pi_range1 (by rfl) B.range (pa_cons (pv 3) pa_nil)) (pg_name (i := 6) sc__law_box.nd rfl (by first | exact Or.inl rfl | exact Or.inr rfl)) (pss_cons (ps_set (i := 7) sc__law_box.nd rfl (by first | exact Or.inl rfl | exact Or.inr rfl) (pe_c C__law_cell hr (by decide) (by rfl) (pa_cons (pv 0) (pa_cons (pe_op op_add pe_int (pe_op op_mod (pv 6) pe_int)) pa_nil))))
      (pss_cons (ps_expr (pe_bmK (K := K) rfl PySem.F.plainAttrs_list PySem.F.slot_list_append PySem.F.type_list_append mt_append (pv 5) (pa_cons (pe_c C__law_ballot hr (by decide) (by rfl) (pa_cons (pv 7) (pa_cons (pv 2) (pa_cons (pe_callB (id := "min") (call_min2 rfl) (by rfl) B.min (by decide +kernel) (pa_cons (pv 4) (pa_cons pe_int pa_nil))) pa_nil)))) pa_nil)))
      (pss_one (ps_if (pt_cmpR op_eq (pe_op op_mod (pv 7) pe_int) pe_int (nomark _)) (pss_one (ps_expr (pe_bmK (K := K) rfl PySem.F.plainAttrs_list PySem.F.slot_list_append PySem.F.type_list_append mt_append (pv 5) (pa_cons (pe_ix (ix_listK (K := K) rfl) (pv 5) (pe_un un_neg pe_int) (fun _ _ => rfl)) pa_nil)))) pss_nil)))))
      (pss_one (ps_ret (pe_tup (pa_cons (pv 2) (pa_cons (pe_callTy (T := "tuple") (tupleK (K := K) rfl) (by rfl) B.tuple (by decide +kernel) (pa_cons (pv 5) pa_nil)) pa_nil))))))))))), ?_⟩
    have cell : ∀ {σ' : L2.St} {H' : Hp} {te : TE} {i : Nat} {E : XK}, σ'[0]? = some (some (.ref a)) → Ex H H' → ED te σ' H' (.int (i : Int)) → ED (tCall (Wm.spCell K) [] E (tCons (tVar 0) (tCons te tNil))) σ' H' (.int (ns.getD i 0)) := by
      intro σ' H' te i E hs ex he H1 x1 Q q
      refine ⟨_, hs, he H1 x1 _ fun v H2 x2 r => ⟨a, ns, i, by rw [r.intE, List.append_nil], ex_l ((ex.trans x1).trans x2) hS, q _ H2 x2 (.int _)⟩⟩
    generalize hn : (1 + ns.getD 0 0 * 48271 % 9949 % (most : Int)).toNat = n
    have hnE : 1 + ns.getD 0 0 * 48271 % 9949 % (most : Int) = (n : Int) := by
      have := Int.emod_nonneg (ns.getD 0 0 * 48271 % 9949) (show (most : Int) ≠ 0 by omega)
      omega
    have hn1 : 1 ≤ n ∧ n ≤ most := by
      have h1 := Int.emod_nonneg (ns.getD 0 0 * 48271 % 9949) (show (most : Int) ≠ 0 by omega)
      have h2 := Int.emod_lt_of_pos (ns.getD 0 0 * 48271 % 9949) (show 0 < (most : Int) by omega)
      omega
    refine qd_asg (d := .int (n : Int)) ((ed_I ed_int (ed_call (ea_cons (cell (i := 0) rfl (Ex.refl H) ed_int) (ea_cons ed_int (ea_cons (ed_var rfl (.int _)) ea_nil))) ⟨_, _, _, rfl, by decide, by omega, rfl⟩)).is (by rw [← hnE])) fun v H1 e1 r => ?_
    obtain rfl := r.intE
    generalize hz : (ns.getD 1 0 * 48271 % 9941 % 14).toNat = z
    have hzE : ns.getD 1 0 * 48271 % 9941 % 14 = (z : Int) := by omega
    have hz1 : z < 14 := by omega
    refine qd_asg (d := .int (z : Int)) ((ed_call (ea_cons (cell (i := 1) rfl e1 ed_int) (ea_cons ed_int (ea_cons ed_int ea_nil))) ⟨_, _, _, rfl, by decide, by decide, rfl⟩).is (by rw [← hzE])) fun v H2 e2 r => ?_
    obtain rfl := r.intE
    generalize hw : (ns.getD 0 0 * 48271 % 9931 % 5).toNat = wy
    have hwE : ns.getD 0 0 * 48271 % 9931 % 5 = (wy : Int) := by omega
    refine qd_asg (d := .int (wy : Int)) ((ed_call (ea_cons (cell (i := 0) rfl (e1.trans e2) ed_int) (ea_cons ed_int (ea_cons ed_int ea_nil))) ⟨_, _, _, rfl, by decide, by decide, rfl⟩).is (by rw [← hwE])) fun v H3 e3 r => ?_
    obtain rfl := r.intE
    have e03 := (e1.trans e2).trans e3
    refine qd_asgL (ds := ([] : List (List Int)).map dB) (el_lst ea_nil (by decide)) fun l H4 hl e4 hL => ?_
    have hl0 : Nw H l := fresh_back e03 hl
    -- the loop
    refine qd_forR (n := z) (ea_cons (ed_var rfl (.int _)) ea_nil) (by omega) (fun i σ' H' => ∃ (bs : List (List Int)) (x6 x7 : Option V), σ' = [some (.ref a), some (.int most), some (.int n), some (.int z), some (.int wy), some (.ref l), x6, x7] ∧ Ex H H' ∧ W11.LTk H' l bs ∧ bs.length ≤ 2 * i ∧ ∀ b ∈ bs, b.length = n ∧ Pl b)
      (fun H5 e5 => ⟨[], none, none, rfl, (e03.trans e4).trans e5, W11.ltk_nil (hL.ex e5), Nat.zero_le _, fun b hb => nomatch hb⟩) ?_ ?_
    · rintro i σ' H' hi ⟨bs, x6, x7, rfl, ex, hB, hlen, hb⟩
      refine qd_asg (d := .int (ns.getD (2 + i % 14) 0)) (cell (i := 2 + i % 14) rfl ex ((ed_I ed_int (ed_IC (ed_var rfl (.int _)) ed_int (by decide))).is (congrArg PyData.int (by omega)))) fun v H5 e5 r => ?_
      obtain rfl := r.intE
      refine W11.qt_app (H0 := H) (bs := bs) (P := fun b : List Int => b.length = n ∧ Pl b) (ex.trans e5) hl0 (hB.ex e5) (ev_var rfl) ?_ (by omega) fun H6 b hP ex6 hL6' => ?_
      · intro H6 x6 Q' q'
        refine (ea_cons (ed_var rfl (.int _)) (ea_cons (ed_var rfl (.int _)) (ea_cons (d := .int (min wy 2 : Nat)) ((ed_2 (ed_var rfl (.int _)) ed_int).is (congrArg PyData.int (by split <;> omega))) ea_nil))) H6 x6 _ fun vs H7 x7 r => ?_
        obtain ⟨w0, w1, w2, rfl, q0, q1, q2⟩ := r.e3
        obtain rfl := q0.intE
        obtain rfl := q1.intE
        obtain rfl := q2.intE
        exact ⟨_, n, min wy 2, rfl, hn1.1, by omega, by omega, fun v b H8 x8 r h1 h2 => q' v b H8 (x7.trans x8) r ⟨h1, h2⟩⟩
      · have hb6 : ∀ b' ∈ bs ++ [b], b'.length = n ∧ Pl b' := fun b' hm => by
          rcases List.mem_append.mp hm with h | h
          · exact hb b' h
          · obtain rfl := List.mem_singleton.mp h
            exact hP
        refine s_when (b := decide (ns.getD (2 + i % 14) 0 % 5 = 0)) (et_d (ed_eqI (ed_IC (ed_var rfl (.int _)) ed_int (by decide)) ed_int)) (fun _ H7 e7 => ?_) (fun _ H7 e7 => ?_)
        · refine W11.st_app (H0 := H) (bs := bs ++ [b]) (P := fun c : List Int => c = b) (ex6.trans e7) hl0 (hL6'.ex e7) (ev_var rfl) ?_ (by rw [List.length_append]; simp; omega) fun H8 c hc ex8 hL8 => ?_
          · intro H8 x8 Q' q'
            obtain ⟨xs, hx, rs⟩ := (hL6'.ex e7).ex x8
            have hxl0 : bs.length < xs.length := by rw [rs.1]; simp
            have hy : xs[bs.length]? = some xs[bs.length] := List.getElem?_eq_getElem hxl0
            have ry := rs.2 bs.length _ b hy (by simp)
            refine ⟨_, rfl, _, rfl, l, xs, -1, _, rfl, rfl, SqL.of hx, ?_, q' _ b H8 (Ex.refl _) ry rfl⟩
            have hxl : xs.length = bs.length + 1 := by rw [rs.1]; simp
            unfold atI ixN
            rw [if_neg (by decide), if_pos (by omega)]
            show xs[((-1 : Int) + (xs.length : Int)).toNat]? = some xs[bs.length]
            rw [hxl, show ((-1 : Int) + ((bs.length + 1 : Nat) : Int)).toNat = bs.length by omega]
            exact hy
          · subst hc
            refine ⟨bs ++ [c] ++ [c], _, _, rfl, ex8, hL8, by simp; omega, fun b' hm => ?_⟩
            rcases List.mem_append.mp hm with h | h
            · exact hb6 b' h
            · obtain rfl := List.mem_singleton.mp h
              exact hP
        · exact ⟨bs ++ [b], _, _, rfl, ex6.trans e7, hL6'.ex e7, by simp; omega, hb6⟩
    · rintro σ' H' ⟨bs, x6, x7, rfl, ex, hB, hlen, hb⟩
      exact W11.ed_boxT (i := 2) rfl (ev_var rfl) hB fun v H5 e5 bn => k v H5 n bs (ex.trans e5) ⟨hn1.1, hn1.2, by omega, hb⟩ bn

-- slots 0:_law_box_here 1:_law_one 2:_law_other 3:_law_found 4:_law_ballot_here
abbrev s__law_lead : Stmt := top 14
theorem sc__law_lead : FnScope ["_law_box_here", "_law_one", "_law_other", "_law_found", "_law_ballot_here"] ["_law_box_here", "_law_one", "_law_other"] (defScope s__law_lead) := ⟨rfl, rfl, rfl, by decide +kernel, rfl, by decide +kernel, by decide +kernel⟩
theorem ok__law_lead (B : Bt mg) (F : DefAt K mg "_law_lead" s__law_lead ["_law_box_here", "_law_one", "_law_other"]) : Cal P w K mg base 1 "_law_lead" (SpR R_lead) [] := by
  refine cal_ok F sc__law_lead (fun vs H Q E h => h.len (n := 3) fun ds d ⟨_, _, _, _, e, _⟩ => by rw [e]; rfl) (fun f cdv A outer s H vs Q E hr h => ?_)
  obtain ⟨ds, d, tv, ⟨n, bs, i, j, rfl, wf, hi, hj, rfl⟩, k⟩ := h
  obtain ⟨v0, v1, v2, rfl, t0, t1, t2⟩ := tv.e3
  obtain rfl := t1.intE
  obtain rfl := t2.intE
  refine ⟨_, ((pss_cons (ps_set (i := 3) sc__law_lead.nd rfl (by first | exact Or.inl rfl | exact Or.inr rfl) pe_int)
      (pss_cons (ps_for PassesOwn.never rfl (pi_tupK (K := K) rfl (pe_ix (ix_tupK (K := K) rfl) (pv 0) pe_int (fun _ _ => rfl))) (pg_name (i := 4) sc__law_lead.nd rfl (by first | exact Or.inl rfl | exact Or.inr rfl)) (pss_cons (ps_if (pt_cmpR op_lt (pe_ix (ix_tupK (K := K) rfl) (pv 4) (pv 1) (fun _ _ => rfl)) (pe_ix (ix_tupK (K := K) rfl) (pv 4) (pv 2) (fun _ _ => rfl)) (nomark _)) (pss_one (ps_set (i := 3) sc__law_lead.nd rfl (by first | exact Or.inl rfl | exact Or.inr rfl) (pe_op op_add (pv 3) pe_int))) pss_nil)
      (pss_one (ps_if (pt_cmpR op_lt (pe_ix (ix_tupK (K := K) rfl) (pv 4) (pv 2) (fun _ _ => rfl)) (pe_ix (ix_tupK (K := K) rfl) (pv 4) (pv 1) (fun _ _ => rfl)) (nomark _)) (pss_one (ps_set (i := 3) sc__law_lead.nd rfl (by first | exact Or.inl rfl | exact Or.inr rfl) (pe_op op_sub (pv 3) pe_int))) pss_nil))))
      (pss_one (ps_ret (pv 3)))))), ?_⟩
  refine qd_asg ed_int fun v H1 e1 r => ?_
  obtain rfl := r.intE
  refine qd_forT (l := bs) (enc := dB) (ed_ix (k := 1) (ed_var rfl (t0.ex e1)) ed_int rfl) (fun H2 m σ' H' => ∃ x4, σ' = [some v0, some (.int i), some (.int j), some (.int ((bs.take m).map fun b => sgnAt b i j).sum), x4] ∧ Ex H2 H')
    (fun H2 _ => ⟨none, rfl, Ex.refl _⟩) (fun H2 m σ' H' h => by obtain ⟨_, _, e⟩ := h; exact Tx.of e) ?_ ?_
  · rintro H2 m x b σ' H' e2 hb rb ⟨x4, rfl, e3⟩
    have hbl := wf.each b (List.mem_of_getElem? hb)
    have hsum : ((bs.take (m + 1)).map fun b => sgnAt b i j).sum = ((bs.take m).map fun b => sgnAt b i j).sum + sgnAt b i j := by
      rw [List.take_add_one, hb]
      simp
    generalize ((bs.take m).map fun b => sgnAt b i j).sum = z at hsum ⊢
    rw [hsum]
    have gi : ∀ {σ'' : L2.St} {H'' : Hp}, Ex H' H'' → σ''[4]? = some (some x) → σ''[1]? = some (some (.int i)) → ED (tOp (rIxT K) (tVar 4) (tVar 1)) σ'' H'' (.int (b.getD i 0)) := fun e h4 h1 => ed_ix (ed_var h4 (rb.ex e)) (ed_var h1 (.int _)) (dB_get (by omega))
    have gj : ∀ {σ'' : L2.St} {H'' : Hp}, Ex H' H'' → σ''[4]? = some (some x) → σ''[2]? = some (some (.int j)) → ED (tOp (rIxT K) (tVar 4) (tVar 2)) σ'' H'' (.int (b.getD j 0)) := fun e h4 h1 => ed_ix (ed_var h4 (rb.ex e)) (ed_var h1 (.int _)) (dB_get (by omega))
    refine q_ifAsg (b := decide (b.getD i 0 < b.getD j 0)) (v := .int (z + (if decide (b.getD i 0 < b.getD j 0) then 1 else 0))) (et_d (ed_B (gi (Ex.refl _) rfl rfl) (gj (Ex.refl _) rfl rfl))) (fun h => ?_) (fun h => ?_) fun H3 e3' => ?_
    · rw [h]
      exact ev_ed (ed_I (ed_var rfl (.int _)) ed_int)
    · rw [h]
      show [_, _, _, some (V.int (z + 0)), _] = _
      rw [Int.add_zero]
      rfl
    · generalize hy : z + (if decide (b.getD i 0 < b.getD j 0) then 1 else 0) = y
      refine s_ifAsg (b := decide (b.getD j 0 < b.getD i 0)) (v := .int (y - (if decide (b.getD j 0 < b.getD i 0) then 1 else 0))) (et_d (ed_B (gj e3' rfl rfl) (gi e3' rfl rfl))) (fun h => ?_) (fun h => ?_) fun H4 e4 => ?_
      · rw [h]
        exact ev_ed (ed_I (ed_var rfl (.int _)) ed_int)
      · rw [h]
        show [_, _, _, some (V.int (y - 0)), _] = _
        rw [Int.sub_zero]
        rfl
      · refine ⟨some x, ?_, (e3.trans e3').trans e4⟩
        have : y - (if decide (b.getD j 0 < b.getD i 0) then 1 else 0) = z + sgnAt b i j := by
          unfold sgnAt sgn
          omega
        rw [this]
        rfl
  · rintro H2 σ' H' e2 ⟨x4, rfl, e3⟩
    rw [List.take_length]
    exact sd_ret (ed_var rfl (.int _)) fun v H3 e4 r => k v H3 (((e1.trans e2).trans e3).trans e4) r

-- slots 0:_law_urn 1:_law_ballot_here 2:_law_told 3:e
abbrev s__law_taken : Stmt := top 15
theorem sc__law_taken : FnScope ["_law_urn", "_law_ballot_here", "_law_told", "e"] ["_law_urn", "_law_ballot_here"] (defScope s__law_taken) := ⟨rfl, rfl, rfl, by decide +kernel, rfl, by decide +kernel, by decide +kernel⟩
theorem ok__law_taken (B : Bt mg) {nW nN : Addr} (N7 : W7.NB K mg nW nN) {uC : Addr} (MX_take : W11.MetX P w K mg base 3 uC "take" (W11.spTakeX uC nN)) (F : DefAt K mg "_law_taken" s__law_taken ["_law_urn", "_law_ballot_here"]) : Cal P w K mg base 4 "_law_taken" (W11.spTaken uC) [] := by
  refine cal_ok F sc__law_taken (fun vs H Q E h => ?_) (fun f cdv A outer s H vs Q E hr h => ?_)
  · obtain ⟨H0, p, d, l, n, ks, c, M, v, b, rfl, _⟩ := h
    rfl
  obtain ⟨H0, p, d, l, n, ks, c, M, v, b, rfl, hb, hbl, hn, e0, hu, hk, hca⟩ := h
  refine ⟨_, ((pss_cons (ps_set (i := 2) sc__law_taken.nd rfl (by first | exact Or.inl rfl | exact Or.inr rfl) pe_str)
      (pss_cons (ps_try_as (i := 3) rfl rfl sc__law_taken.nd rfl rfl ⟨rfl, by decide, Or.inl N7.gW⟩ takes0 (fun W pn xe tk _ => (pss_one (ps_set (i := 2) sc__law_taken.nd rfl (by first | exact Or.inl rfl | exact Or.inr rfl) (W11.pe_mtX MX_take tk hr (by decide) (pv 0) (pa_cons (pv 1) pa_nil))))) (fun a oe cls d pn hz hf => (pss_one (ps_if (PW.pt (pw_and (pt_val (pe_callB (id := "isinstance") (W7.isXK (K := K) rfl N7.c hz hf) (by rfl) B.isinstance (by decide +kernel) (pa_cons (pv 3) (pa_cons (pe_glob (v := .ref nN) rfl N7.gN rfl) pa_nil)))) (pw_and1 (pt_val (pe_callB (id := "isinstance") (W7.isXK (K := K) rfl N7.c hz hf) (by rfl) B.isinstance (by decide +kernel) (pa_cons (pv 3) (pa_cons (pe_bltn (v := .ty "ValueError") (by rfl) N7.vE (by decide +kernel) rfl) pa_nil))))))) (pss_one (ps_set (i := 2) sc__law_taken.nd rfl (by first | exact Or.inl rfl | exact Or.inr rfl) pe_str)) pss_nil))))
      (pss_one (ps_ret (pv 2)))))), ?_⟩
  refine qd_asg (d := .str "none") ed_str fun v3 H1 e1 r3 => ?_
  have hu1 := hu.ex e1
  obtain ⟨dx, ho⟩ := hu1.ob
  refine ⟨_, rfl, p, dx, _, rfl, ho, W11.flds_no n d l (by decide +kernel) (by decide +kernel) (by decide +kernel), _, rfl, H0, p, d, l, n, ks, c, M, v, b, rfl, hb.ex e1, hbl, hn, e0.trans e1, hu1, hk, ?_⟩
  rcases hca with ⟨h0, k⟩ | ⟨h0, k⟩
  · refine .inl ⟨h0, fun H2 e2 => ?_⟩
    refine ⟨true, N7.e, fun _ ad had => ?_, fun q => nomatch q⟩
    refine s_when (b := true && true) (et_and (et_dB (W7.ed_isX (ev_var rfl) rfl rfl rfl (fun u r => r) N7.i1)) fun _ => et_dB (W7.ed_isX (ev_var rfl) rfl rfl rfl (fun u r => r) N7.i2)) (fun _ H3 e3 => ?_) (fun h => nomatch h)
    refine sd_asg (d := .str "no ballot") ed_str fun v4 H4 e4 r4 => ?_
    refine sd_ret (ed_var rfl r4) fun v5 H5 e5 r5 => ?_
    cases r5
    exact k H5 ((((e1.trans e2).trans e3).trans e4).trans e5)
  · exact .inr ⟨h0, fun H2 e2 hu2 => ⟨_, rfl, k H2 e2 hu2⟩⟩

-- slots 0:_law_urn 1:_law_many 2:_law_left 3:_law_box_here 4:_law_due 5:_law_one 6:_law_other
abbrev s__law_right : Stmt := top 16
theorem sc__law_right : FnScope ["_law_urn", "_law_many", "_law_left", "_law_box_here", "_law_due", "_law_one", "_law_other"] ["_law_urn", "_law_many", "_law_left"] (defScope s__law_right) := ⟨rfl, rfl, rfl, by decide +kernel, rfl, by decide +kernel, by decide +kernel⟩
theorem ok__law_right (B : Bt mg) {uC : Addr} (C_table : Cal P w K mg base 3 "table" (SpR R_table) []) (C__law_lead : Cal P w K mg base 1 "_law_lead" (SpR R_lead) [])
    (M_counted : C8.Met P w K mg base 1 uC "counted" (W11.spCounted uC) []) (M_box : C8.Met P w K mg base 1 uC "box" (W11.spUbox uC) [])
    (F : DefAt K mg "_law_right" s__law_right ["_law_urn", "_law_many", "_law_left"]) : Cal P w K mg base 4 "_law_right" (W11.spRight uC) [] := by
  refine cal_ok F sc__law_right (fun vs H Q E h => ?_) (fun f cdv A outer s H vs Q E hr h => ?_)
  · obtain ⟨H0, p, d, l, n, ks, c, M, q, left, rfl, _⟩ := h
    rfl
  obtain ⟨H0, p, d, l, n, ks, c, M, q, left, rfl, hu, hq, hn1, hn, gl, gk, hfew, hsub, hc, hM, k⟩ := h
  obtain ⟨S, hS, hs⟩ := srt_ex ks
  have hnd : S.Nodup := hS.nodup_iff.mpr hu.dup
  have hT : (flat S c).Perm left := flat_perm hnd (fun b hb => hS.mem_iff.mpr (hsub b hb)) hc
  have sT : Srt (flat S c) := flat_srt hs
  have hcb : ∀ b, 0 ≤ c b ∧ c b ≤ 100 := fun b => by
    have h1 := hc b
    have h2 := List.count_le_length (a := b) (l := left)
    omega
  have wf : Wf n (flat S c) := ⟨by rw [hT.length_eq]; omega, hn, fun b hb => (gl b (hT.mem_iff.mp hb)).1⟩
  have eTab : Wx.dLs n M = dTab n (flat S c) := by
    refine congrArg PyData.tuple (List.map_congr_left fun i hi => ?_)
    refine congrArg PyData.tuple (List.map_congr_left fun j hj => ?_)
    rw [hM i j (List.mem_range.mp hi) (List.mem_range.mp hj), lead_perm hT]
  refine ⟨_, ((pss_cons (ps_set (i := 3) sc__law_right.nd rfl (by first | exact Or.inl rfl | exact Or.inr rfl) (pe_tup (pa_cons (pv 1) (pa_cons (pe_callTy (T := "tuple") (tupleK (K := K) rfl) (by rfl) B.tuple (by decide +kernel) (pa_cons (pe_callB (id := "sorted") (W11.sortTK (K := K) (d := n) (B := 100) rfl hn1) (by rfl) B.sorted (by decide +kernel) (pa_cons (pv 2) pa_nil)) pa_nil)) pa_nil))))
      (pss_cons (ps_set (i := 4) sc__law_right.nd rfl (by first | exact Or.inl rfl | exact Or.inr rfl) (pe_lst pa_nil))
      (pss_cons (ps_for PassesOwn.never rfl (pi_range1 (by rfl) B.range (pa_cons (pv 1) pa_nil)) (pg_name (i := 5) sc__law_right.nd rfl (by first | exact Or.inl rfl | exact Or.inr rfl)) (pss_one (ps_expr (pe_bmK (K := K) rfl PySem.F.plainAttrs_list PySem.F.slot_list_append PySem.F.type_list_append mt_append (pv 4) (pa_cons (pe_callTy (T := "tuple") (tupleK (K := K) rfl) (by rfl) B.tuple (by decide +kernel) (pa_cons (pe_lc (own := [("_law_other", 6)]) (by rfl) sc__law_right.nd (pi_range1 (by rfl) B.range (pa_cons (pv 1) pa_nil)) (blkOk_by (by rfl)) (fun _ _ _ _ _ => (pg_name (i := 6) sc__law_right.nd rfl (by first | exact Or.inl rfl | exact Or.inr rfl))) (fun _ _ _ _ _ => pts_nil) (fun _ _ _ _ _ => (pe_c C__law_lead hr (by decide) (by rfl) (pa_cons (pv 3) (pa_cons (pv 5) (pa_cons (pv 6) pa_nil)))))) pa_nil)) pa_nil)))))
      (pss_one (ps_ret (pe_and (pe_cmpR (eqK (K := K) rfl hr.units) (pe_mt0 M_box hr (by decide) (pv 0)) (pv 3) (nomark _)) (pe_and (pe_cmpR (eqK (K := K) rfl hr.units) (pe_mt0 M_counted hr (by decide) (pv 0)) (pe_callTy (T := "tuple") (tupleK (K := K) rfl) (by rfl) B.tuple (by decide +kernel) (pa_cons (pv 4) pa_nil)) (nomark _)) (pe_one (pe_cmpR (eqK (K := K) rfl hr.units) (pe_c C_table hr (by decide) (by rfl) (pa_cons (pe_mt0 M_box hr (by decide) (pv 0)) pa_nil)) (pe_callTy (T := "tuple") (tupleK (K := K) rfl) (by rfl) B.tuple (by decide +kernel) (pa_cons (pv 4) pa_nil)) (nomark _))))))))))), ?_⟩
  refine qd_asg (d := dBox n (flat S c)) (ed_tup (ea_cons (ed_var rfl (.int _)) (ea_cons (ed_tupN (W11.el_sortT (n := n) (left := left) (ev_var rfl) hq (by omega) gl hT sT)) ea_nil)) (by show 2 ≤ 100000; decide)) fun v3 H1 e1 r3 => ?_
  refine qd_asgL (ds := []) (el_lst ea_nil (by decide)) fun y H2 hy e2 hL => ?_
  have e12 := e1.trans e2
  refine qd_forR (n := n) (ea_cons (ed_var rfl (.int _)) ea_nil) (by omega) (fun i σ' H' => ∃ x5 x6, σ' = [some (.ref p), some (.int n), some (.ref q), some v3, some (.ref y), x5, x6] ∧ Ex H1 H' ∧ LAt H' y ((List.range i).map (dRow n (flat S c))))
    (fun H3 e3 => ⟨none, none, rfl, e2.trans e3, hL.ex e3⟩) ?_ ?_
  · rintro i σ' H' hi ⟨x5, x6, rfl, ex, hD⟩
    refine sd_app (H0 := H1) (d := dRow n (flat S c) i) ex hy hD (ev_var rfl) ?_ (by rw [List.length_map, List.length_range]; omega) fun H4 ex3 hD3 _ _ => ⟨_, _, rfl, ex3, ?_⟩
    · exact ed_tupN (el_lcR0 (n := n) _ (ea_cons (ed_var rfl (.int _)) ea_nil) (by omega) (fun _ => rfl) fun j H4 x4 hj => ed_call (ea_cons (ed_var rfl (r3.ex (ex.trans x4))) (ea_cons (ed_var rfl (.int _)) (ea_cons (ed_var rfl (.int _)) ea_nil))) ⟨n, flat S c, i, j, rfl, wf, hi, hj, rfl⟩)
    · rw [List.range_succ, List.map_append]
      exact hD3
  · rintro σ' H' ⟨x5, x6, rfl, ex, hD⟩
    have hu' := hu.ex (e1.trans ex)
    have s1 := sh_dBox n (flat S c)
    have s2 := sh_dTab n (flat S c)
    have bx : ∀ {E : XK}, ED (tMeth uC "box" (W11.spUbox uC) [] E (tVar 0) tNil) ([some (.ref p), some (.int n), some (.ref q), some v3, some (.ref y), x5, x6] : L2.St) H' (dBox n (flat S c)) := W11.ed_ubox (ev_var rfl) hu' hn hn1 gk hS hs hcb
    have due : ED (tCB (Wd.rTupOf K) (tCons (tVar 4) tNil)) ([some (.ref p), some (.int n), some (.ref q), some v3, some (.ref y), x5, x6] : L2.St) H' (dTab n (flat S c)) := ed_tupL (ev_var rfl) hD
    refine sd_ret (ed_andV (ed_eqD bx (ed_var rfl (r3.ex ex)) s1.ok s1.ok) fun _ => ed_andV (ed_eqD ((W11.ed_counted (ev_var rfl) hu' hn).is eTab) due s2.ok s2.ok) fun _ => ed_eqD (ed_call (ea_cons bx ea_nil) ⟨n, flat S c, rfl, wf, rfl⟩) due s2.ok s2.ok) fun v5 H5 e5 r5 => ?_
    have e := r5.blE
    rw [s1.refl, s2.refl] at e
    rw [e]
    exact k H5 ((e1.trans ex).trans e5)

-- slots 0:_law_script 1:_law_many 2:_law_ballots 3:_law_urn 4:_law_left 5:_law_some 6:_law_cell_here 7:_law_ballot_here
abbrev s_law : Stmt := top 17
theorem sc_law : FnScope ["_law_script", "_law_many", "_law_ballots", "_law_urn", "_law_left", "_law_some", "_law_cell_here", "_law_ballot_here"] ["_law_script"] (defScope s_law) := ⟨rfl, rfl, rfl, by decide +kernel, rfl, by decide +kernel, by decide +kernel⟩
theorem ok_law (B : Bt mg) {uC : Addr} (K_Urn : C8.Mak P w K mg base 1 "Urn" uC (W11.spInit uC) []) (M_put : C8.Met P w K mg base 3 uC "put" (W11.spPut uC) [])
    (C__law_cell : Cal P w K mg base 1 "_law_cell" (Wm.spCell K) []) (C__law_mix : Cal P w K mg base 1 "_law_mix" (SpR R_mix) []) (C__law_ballot : Cal P w K mg base 2 "_law_ballot" W11.spBallotT []) (C__law_box : Cal P w K mg base 3 "_law_box" (W11.spBoxT K) [])
    (C__law_taken : Cal P w K mg base 4 "_law_taken" (W11.spTaken uC) []) (C__law_right : Cal P w K mg base 4 "_law_right" (W11.spRight uC) [])
    {f : Addr} {fd : FuncData} (F : L2.Fun K "law" "law" s_law f fd) : FnOk P w K mg base L2.CX0 5 f fd ["_law_script"] (spLaw K) := by
  refine F.ok sc_law (fun vs H Q E h => ?_) (fun cdv A outer s H vs Q E hr h => ?_)
  · obtain ⟨a, ns, rfl, _⟩ := h
    rfl
  obtain ⟨a, ns, rfl, hS, _, _, k⟩ := h
  refine ⟨_, ((pss_cons (ps_asg (pe_c C__law_box hr (by decide) (by rfl) (pa_cons (pv 0) (pa_cons pe_int pa_nil))) (pg_tupK (K := K) (n := 2) rfl (by rfl) (pgs_cons (pg_name (i := 1) sc_law.nd rfl (by first | exact Or.inl rfl | exact Or.inr rfl)) (pgs_cons (pg_name (i := 2) sc_law.nd rfl (by first | exact Or.inl rfl | exact Or.inr rfl)) pgs_nil))))
      (pss_cons (ps_set (i := 3) sc_law.nd rfl (by first | exact Or.inl rfl | exact Or.inr rfl) (pe_mk K_Urn hr (by decide) (by rfl) (pa_cons (pv 1) pa_nil)))
      (pss_cons (ps_set (i := 4) sc_law.nd rfl (by first | exact Or.inl rfl | exact Or.inr rfl) (pe_lst pa_nil))
      (pss_cons (ps_set (i := 5) sc_law.nd rfl (by first | exact Or.inl rfl | exact Or.inr rfl) (pe_op op_cat (pe_callTy (T := "list") (listK (K := K) rfl) (by rfl) B.list (by decide +kernel) (pa_cons (pe_slice (slK (K := K) rfl) (pv 2) po_none (po_some pe_int)) pa_nil)) (pe_lst (pa_cons (pe_c C__law_ballot hr (by decide) (by rfl) (pa_cons (pe_c C__law_cell hr (by decide) (by rfl) (pa_cons (pv 0) (pa_cons pe_int pa_nil))) (pa_cons (pv 1) (pa_cons pe_int pa_nil)))) (pa_cons (pe_op (W1.op_repA (K := K) rfl) (pe_tup (pa_cons pe_int pa_nil)) (pv 1)) pa_nil)))))
      (pss_cons (ps_for PassesOwn.never rfl (pi_listK (K := K) rfl (pe_slice sl_list (pv 0) (po_some pe_int) (po_some pe_int))) (pg_name (i := 6) sc_law.nd rfl (by first | exact Or.inl rfl | exact Or.inr rfl)) (pss_cons (ps_set (i := 7) sc_law.nd rfl (by first | exact Or.inl rfl | exact Or.inr rfl) (pe_ix (ix_listK (K := K) rfl) (pv 5) (pe_c C__law_mix hr (by decide) (by rfl) (pa_cons (pv 6) (pa_cons pe_int (pa_cons (pe_callB (id := "len") (lenK (K := K) rfl) (by rfl) B.len (by decide +kernel) (pa_cons (pv 5) pa_nil)) pa_nil)))) (fun _ _ => rfl)))
      (pss_cons (ps_if (PW.pt (pw_and (pt_cmpR op_gt (pe_op op_mod (pv 6) pe_int) pe_int (nomark _)) (pw_and1 (pt_cmpR op_lt (pe_callB (id := "len") (lenK (K := K) rfl) (by rfl) B.len (by decide +kernel) (pa_cons (pv 4) pa_nil)) pe_int (nomark _))))) (pss_cons (ps_if (pt_cmpR op_notN (pe_mt M_put hr (by decide) (pv 3) (pa_cons (pv 7) pa_nil)) pe_non (nomark _)) (pss_one (ps_ret pe_bl)) pss_nil)
      (pss_one (ps_expr (pe_bmK (K := K) rfl PySem.F.plainAttrs_list PySem.F.slot_list_append PySem.F.type_list_append mt_append (pv 4) (pa_cons (pv 7) pa_nil))))) (pss_one (ps_if (pt_cmpR (op_inD (Wz.room65 hr)) (pv 7) (pv 4) (by rfl)) (pss_cons (ps_if (pt_cmpR op_notN (pe_c C__law_taken hr (by decide) (by rfl) (pa_cons (pv 3) (pa_cons (pv 7) pa_nil))) pe_non (nomark _)) (pss_one (ps_ret pe_bl)) pss_nil)
      (pss_one (ps_expr (pe_bmK (K := K) rfl PySem.F.plainAttrs_list PySem.F.slot_list_remove PySem.F.type_list_remove (W11.mt_removeB (K := K) rfl (Wz.room65 hr)) (pv 4) (pa_cons (pv 7) pa_nil))))) (pss_one (ps_if (pt_cmpR op_ne (pe_c C__law_taken hr (by decide) (by rfl) (pa_cons (pv 3) (pa_cons (pv 7) pa_nil))) pe_str (nomark _)) (pss_one (ps_ret pe_bl)) pss_nil)))))
      (pss_one (ps_if (pt_not (pt_val (pe_c C__law_right hr (by decide) (by rfl) (pa_cons (pv 3) (pa_cons (pv 1) (pa_cons (pv 4) pa_nil)))))) (pss_one (ps_ret pe_bl)) pss_nil)))))
      (pss_one (ps_ret pe_bl)))))))), ?_⟩
  -- the box
  refine ⟨_, rfl, a, ns, 5, rfl, hS, by decide, by decide, fun v H1 n bs e1 bx t1 => ?_⟩
  obtain ⟨ab, t, xs, rfl, hab, ht, hxs⟩ := t1
  refine ⟨ab, [.int (n : Int), .ref t], rfl, SqR hab, rfl, .int (n : Int), [.ref t], rfl, .ref t, [], rfl, rfl, ?_⟩
  have hn1 := bx.one
  have hn : n ≤ 20 := by have := bx.le; omega
  -- the urn
  refine ⟨_, rfl, fun x dx hx hdx hne => ?_⟩
  have eN : Ex H1 (upd (upd H1 dx (.own x)) x (.ins uC dx [])) := (Ex.new hdx).trans (Ex.new (by rw [upd_ne hne.symm]; exact hx))
  refine ⟨H1, x, dx, n, rfl, upd_same, eN, .of hx, hn1, hn, fun H2 d l e2 hu => ⟨rfl, ?_⟩⟩
  refine qd_asgL (ds := []) (el_lst ea_nil (by decide)) fun q H3 hq e3 hL => ?_
  -- the ballots
  have cell : ∀ {σ' : L2.St} {H' : Hp} {te : TE} {i : Nat} {E : XK}, σ'[0]? = some (some (.ref a)) → Ex H H' → ED te σ' H' (.int (i : Int)) → ED (tCall (Wm.spCell K) [] E (tCons (tVar 0) (tCons te tNil))) σ' H' (.int (ns.getD i 0)) := by
    intro σ' H' te i E hs ex he G1 x1 Q q
    refine ⟨_, hs, he G1 x1 _ fun v G2 x2 r => ⟨a, ns, i, by rw [r.intE, List.append_nil], ex_l ((ex.trans x1).trans x2) hS, q _ G2 x2 (.int _)⟩⟩
  have e13 := e2.trans e3
  have e03 := e1.trans e13
  refine W11.qs_asg (P := fun b : List Int => b.length = n ∧ Pl b) (bs := bs.take 6) (b2 := List.replicate n 0) (W11.ek_take (k := 6) (xs := xs) (bs := bs) (ev_var rfl) (e13.rd ht) (hxs.ex e13) ed_int) (fun G1 x1 Q' q' => ?_) (W11.tk_rep (z := 0) (k := n) (ed_var rfl (.int _)) hn1 (by omega)) (by rw [List.length_take]; omega) fun sm b1 H4 hb1 hsm e4 hsmL => ?_
  · refine (ea_cons (cell (i := 2) rfl (e03.trans x1) ed_int) (ea_cons (ed_var rfl (.int _)) (ea_cons (ed_int (i := 0)) ea_nil))) G1 (.refl _) _ fun vs G2 x2 r => ?_
    obtain ⟨w0, w1, w2, rfl, q0, q1, q2⟩ := r.e3
    obtain rfl := q0.intE
    obtain rfl := q1.intE
    obtain rfl := q2.intE
    exact ⟨_, n, 0, rfl, hn1, hn, by decide, fun v b G3 x3 r h1 h2 => q' v b G3 (x2.trans x3) r ⟨h1, h2⟩⟩
  have all : ∀ b ∈ bs.take 6 ++ [b1, List.replicate n 0], b.length = n ∧ Pl b := fun b hb => by
    rcases List.mem_append.mp hb with hb | hb
    · exact bx.each b (List.mem_of_mem_take hb)
    · rcases List.mem_cons.mp hb with rfl | hb
      · exact hb1
      · rw [List.mem_singleton.mp hb]
        refine ⟨List.length_replicate, fun y hy => ?_⟩
        rw [(List.mem_replicate.mp hy).2]
        decide
  have two : 2 ≤ (bs.take 6 ++ [b1, List.replicate n 0]).length := by rw [List.length_append]; show 2 ≤ _ + 2; omega
  generalize bs.take 6 ++ [b1, List.replicate n 0] = bs' at hsmL all two
  -- the slice
  refine W1.el_slS (a := 2) (b := 42) (ev_var rfl) (ex_l (e03.trans e4) hS) ed_int ed_int H4 (.refl _) _ fun sl H5 hsl e5 hSL => ?_
  obtain ⟨xsl, hx5, rsl⟩ := hSL
  rw [rsl.intsE] at hx5
  have few : ((ns.drop 2).take (42 - 2)).length ≤ 40 := by rw [List.length_take]; omega
  generalize (ns.drop 2).take (42 - 2) = zs at hx5 few
  obtain ⟨xsm, hsm4, hTk4⟩ := hsmL
  obtain ⟨vq, hq3, rq⟩ := hL
  rw [rq.nilE] at hq3
  have e35 := e4.trans e5
  have e25 := e3.trans e35
  -- all but the urn
  obtain ⟨A, xA, huA, hA1, hA2⟩ := hu.off2 e25
  have hAq : A q = some (.lst []) := hA1 q _ (e35.at hq3) True.intro hq
  have hAsm : A sm = some (.lst xsm) := hA1 sm _ (e5.at hsm4) True.intro (e3.back hsm)
  have hAsl : A sl = some (.lst (zs.map V.int)) := hA1 sl _ hx5 True.intro ((e3.trans e4).back hsl)
  have hTk : W11.TkA A xsm bs' := ⟨hTk4.1, fun i v b h1 h2 => by
    obtain ⟨r, rfl, hr⟩ := (hTk4.ex e5).2 i v b h1 h2
    exact ⟨r, rfl, hA2 r _ hr⟩⟩
  have nsm : sm ≠ q := (hsm.ne hq3).symm
  have nsl : sl ≠ q := (((e4.back hsl)).ne hq3).symm
  have eA : upd A q (.lst []) = A := by
    funext y
    by_cases e : y = q
    · rw [e, upd_same, hAq]
    · rw [upd_ne e]
  have atS : ∀ {vs : List V} {H' : Hp}, Ex (upd A q (.lst vs)) H' → H' sm = some (.lst xsm) := fun ex => ex.at (by rw [upd_ne nsm]; exact hAsm)
  have atQ : ∀ {vs : List V} {H' : Hp}, Ex (upd A q (.lst vs)) H' → H' q = some (.lst vs) := fun ex => ex.at upd_same
  have tkA : ∀ {vs ws : List V} {left : List (List Int)} {H' : Hp}, W11.TkA A ws left → Ex (upd A q (.lst vs)) H' → W11.TkA H' ws left := fun h ex => (W11.tkA_upd h hAq).ex ex
  refine ⟨sl, rfl, ⟨_, SqL.of hx5⟩, for_list (K := K) (a := sl) (xs := zs.map V.int) (fun i σ' H' => ∃ (x6 x7 : Option V) (vs : List V) (left ks : List (List Int)) (c : List Int → Int) (M : Nat → Nat → Int), σ' = [some (.ref a), some (.int n), some (.ref t), some (.ref x), some (.ref q), some (.ref sm), x6, x7] ∧ Ex (upd A q (.lst vs)) H' ∧ W11.TkA A vs left ∧ W11.Urn A H' uC x d l n ks c M ∧ W11.Kept n left ks c M ∧ ks.length ≤ i)
    ⟨none, none, [], [], [], _, _, rfl, by rw [eA]; exact xA, .nil, huA, .nil, Nat.le_refl _⟩ (fun i σ' H' _ ⟨_, _, _, _, _, _, _, _, ex, _⟩ => SqL.of (ex.at (by rw [upd_ne nsl]; exact hAsl))) ?_ ?_⟩
  · rintro i z σ' H' hi ⟨x6, x7, vs, left, ks, c, M, rfl, ex, hvs, hu', kp, hks⟩
    rw [List.getElem?_map] at hi
    have hil : i < zs.length := by
      cases hz : zs[i]? with
      | none => rw [hz] at hi; cases hi
      | some y => exact (List.getElem?_eq_some_iff.mp hz).1
    rw [List.getElem?_eq_getElem hil] at hi
    obtain rfl : V.int zs[i] = z := Option.some.inj hi
    generalize zs[i] = y
    -- the ballot
    have hl2 : 2 ≤ xsm.length := by rw [hTk.1]; exact two
    generalize hkk : (y * 48271 % 9883 % (xsm.length : Int)).toNat = kk
    have hk1 := Int.emod_nonneg (y * 48271 % 9883) (show (xsm.length : Int) ≠ 0 by omega)
    have hk2 := Int.emod_lt_of_pos (y * 48271 % 9883) (show 0 < (xsm.length : Int) by omega)
    have hkE : y * 48271 % 9883 % (xsm.length : Int) = (kk : Int) := by omega
    have hkl : kk < xsm.length := by omega
    have hkb : kk < bs'.length := by rw [← hTk.1]; exact hkl
    have tkv := hTk.2 kk _ _ (List.getElem?_eq_getElem hkl) (List.getElem?_eq_getElem hkb)
    obtain ⟨hbl, hbp⟩ := all bs'[kk] (List.getElem_mem hkb)
    have hv0 : xsm[kk]? = some xsm[kk] := List.getElem?_eq_getElem hkl
    generalize xsm[kk] = v at tkv hv0
    generalize bs'[kk] = b at tkv hbl hbp
    refine W11.qv_asg (v := v) (W11.ev_ixL (k := kk) (ev_var rfl) (atS ex) ((ed_call (ea_cons (ed_var rfl (.int _)) (ea_cons ed_int (ea_cons (ed_lenS (ev_var rfl) (SqL.of (atS ex))) ea_nil))) ⟨_, _, _, rfl, by decide, by omega, rfl⟩).is (congrArg PyData.int hkE)) hv0) fun H6 e6 => ?_
    have ex6 := ex.trans e6
    have hu6 := hu'.ex e6
    have tku : ∀ {vs : List V}, W11.Tk (upd A q (.lst vs)) v b := W11.tk_upd tkv hAq
    have tk6 : ∀ {vs : List V} {H' : Hp}, Ex (upd A q (.lst vs)) H' → W11.Tk H' v b := fun ex => tku.ex ex
    refine q_if (b := decide (0 < y % 3) && decide ((left.length : Int) < 40)) (et_and (et_d (ed_B (ed_IC (ed_var rfl (.int _)) ed_int (by decide)) ed_int)) fun _ => et_d (ed_B ((ed_lenS (ev_var rfl) (SqL.of (atQ ex6))).is (by rw [hvs.1])) ed_int)) (fun h H7 e7 => ?_) (fun _ H7 e7 => ?_)
    · -- put in
      have h40 : left.length < 40 := by
        have := (Bool.and_eq_true_iff.mp h).2
        have := of_decide_eq_true this
        omega
      have ex7 := ex6.trans e7
      refine W11.q_put rfl rfl ex7 ((hu6.ex e7).swap hAq) (tk6 ex7) hbl hn (by omega) fun H8 ex8 hu8 => ?_
      refine W11.sq_app rfl rfl (atQ ex8) (by rw [hvs.1]; omega) ?_
      have ex9 : Ex (upd A q (.lst (vs ++ [v]))) (upd H8 q (.lst (vs ++ [v]))) := W11.ex_swap ex8
      have hvs' := hvs.app tkv
      have hu9 := (hu8.unswap hAq).updq (vs := vs ++ [v]) hAq
      have kp9 := kp.put h40 hbl hbp
      refine W11.s_right rfl rfl rfl hu9 ⟨_, upd_same, tkA hvs' ex9⟩ kp9 hn1 hn fun H10 e10 => ?_
      exact ⟨_, _, _, _, _, _, _, rfl, ex9.trans e10, hvs', hu9.ex e10, kp9, by have := W11.len_addK ks b; omega⟩
    · have ex7 := ex6.trans e7
      have hu7 := hu6.ex e7
      have hL7 : W11.LTk H7 q left := ⟨vs, atQ ex7, tkA hvs ex7⟩
      refine s_if (b := decide (b ∈ left)) (et_d (W11.ed_inB (W11.tk_var rfl (tk6 ex7)) (ev_var rfl) hL7)) (fun hin H8 e8 => ?_) (fun hin H8 e8 => ?_)
      · -- taken out
        have hin := of_decide_eq_true hin
        have ex8 := ex7.trans e8
        have h0 : c b ≠ 0 := by
          have h1 := kp.cnt b
          have h2 := List.count_pos_iff.mpr hin
          omega
        refine W11.q_took rfl rfl ex8 ((hu7.ex e8).swap hAq) (tk6 ex8) hbl hn (by omega) h0 fun H9 ex9 hu9 => ?_
        refine W11.sq_rem rfl rfl (atQ ex9) (tkA hvs ex9) (tk6 ex9) hin ?_
        have ex10 : Ex (upd A q (.lst (vs.eraseIdx (left.idxOf b)))) (upd H9 q (.lst (vs.eraseIdx (left.idxOf b)))) := W11.ex_swap ex9
        have hvs' := hvs.erase (left.idxOf b)
        have hu10 := (hu9.unswap hAq).updq (vs := vs.eraseIdx (left.idxOf b)) hAq
        have kp10 := kp.take hin
        refine W11.s_right rfl rfl rfl hu10 ⟨_, upd_same, tkA hvs' ex10⟩ kp10 hn1 hn fun H11 e11 => ?_
        exact ⟨_, _, _, _, _, _, _, rfl, ex10.trans e11, hvs', hu10.ex e11, kp10, by have := W11.len_addK ks b; omega⟩
      · -- not in
        have hin := of_decide_eq_false hin
        have ex8 := ex7.trans e8
        have h0 : c b = 0 := by
          rw [kp.cnt b, List.count_eq_zero.mpr hin]
          rfl
        refine W11.s_none rfl rfl ex8 ((hu7.ex e8).swap hAq) (tk6 ex8) hbl hn (by omega) h0 fun H9 e9 => ?_
        have ex9 := ex8.trans e9
        have hu9 := hu7.ex (e8.trans e9)
        refine W11.s_right rfl rfl rfl hu9 ⟨vs, atQ ex9, tkA hvs ex9⟩ kp hn1 hn fun H10 e10 => ?_
        exact ⟨_, _, vs, left, ks, c, M, rfl, ex9.trans e10, hvs, hu9.ex e10, kp, by omega⟩
  · rintro σ' H' _
    exact k H'
end
end Wl
namespace Wl
open PySem L2 Wd Wm C8
theorem walk {l : PySem.W.OpenLaw} {q : Program} {loose : List Str} {XP : (Str → Option Value) → Heap → Prop} {YP : World → Heap → Prop} {d : DefRec} {K : Params → PySem.W.Frag} (hn : l.most = some 63) (hdf : d.params.defaults = [])
    (hY : ∀ (w : World) (h : Heap), YP w h → (K w.params).In h)
    (F : ∀ (w : World) (mg : Str → Option Value) (fa : Addr) (h : Heap), (K w.params).In h → h.Ns mainGlobals mg → mg d.name = some (.ref fa) →
      ∃ fd : FuncData, (∀ (s : Shared) (u : Value), BindsTo s fd ⟨[u], []⟩ [("_law_script", u)]) ∧ ∀ base : Heap, (K w.params).In base → base.Ns mainGlobals mg → FnOk l.prog w (K w.params) mg base L2.CX0 5 fa fd ["_law_script"] (spLaw (K w.params))) :
    PySem.W.WalkO q loose XP YP l.row.toRowW d [] (fun f vs => PySem.call f vs) :=
  L2.walk_ofB (n := 63) (k := 5) (x := "_law_script") (CX := fun _ => L2.CX0) (sp := fun w => spLaw (K w.params)) hn (by decide) hdf ⟨rfl, by decide, by decide⟩ hY F (fun _ _ a ns hl hb _ hS => ⟨a, ns, rfl, hS, hl, hb, fun _ => rfl⟩) fun _ _ _ _ _ z => z
theorem law_mk {l : PySem.W.OpenLaw} {w : World} {K : PySem.W.Frag} {mg : Str → Option Value} {fa : Addr} (hfa : mg "law" = some (.ref fa)) (B : Bt mg)
    {nW nN : Addr} (N7 : W7.NB K mg nW nN)
    {uC : Addr} (U : W11.UC K mg uC)
    (D_Urn___init__ : W11.MkAt K mg uC "Urn" "Urn.__init__" s_Urn___init__ ["self", "many"])
    (D_Urn_add : W11.MetAt K uC "add" "Urn.add" s_Urn_add ["self", "ballot", "by"])
    (D_Urn_put : W11.MetAt K uC "put" "Urn.put" s_Urn_put ["self", "ballot"])
    (D_Urn_take : W11.MetAt K uC "take" "Urn.take" s_Urn_take ["self", "ballot"])
    (D_Urn_counted : W11.MetAt K uC "counted" "Urn.counted" s_Urn_counted ["self"])
    (D_Urn_box : W11.MetAt K uC "box" "Urn.box" s_Urn_box ["self"])
    (D_sign : DefAt K mg "sign" s_sign ["ballot", "one", "other"])
    (D_lead : DefAt K mg "lead" s_lead ["box", "one", "other"])
    (D_table : DefAt K mg "table" s_table ["box"])
    (D__law_cell : DefAt K mg "_law_cell" s__law_cell ["_law_script", "_law_k"])
    (D__law_mix : DefAt K mg "_law_mix" s__law_mix ["_law_cell_here", "_law_prime", "_law_many"])
    (D__law_ballot : DefAt K mg "_law_ballot" s__law_ballot ["_law_cell_here", "_law_many", "_law_way"])
    (D__law_box : DefAt K mg "_law_box" s__law_box ["_law_script", "_law_most"])
    (D__law_lead : DefAt K mg "_law_lead" s__law_lead ["_law_box_here", "_law_one", "_law_other"])
    (D__law_taken : DefAt K mg "_law_taken" s__law_taken ["_law_urn", "_law_ballot_here"])
    (D__law_right : DefAt K mg "_law_right" s__law_right ["_law_urn", "_law_many", "_law_left"])
    (D_law : DefAt K mg "law" s_law ["_law_script"])
    (bl : ∀ f fd, L2.Fun K "law" "law" s_law f fd → ∀ (s : Shared) (v : Value), BindsTo s fd ⟨[v], []⟩ [("_law_script", v)]) :
    ∃ fd : FuncData, (∀ (s : Shared) (v : Value), BindsTo s fd ⟨[v], []⟩ [("_law_script", v)]) ∧ ∀ base : Heap, K.In base → base.Ns mainGlobals mg → FnOk l.prog w K mg base L2.CX0 5 fa fd ["_law_script"] (spLaw K) := by
  obtain ⟨f, fd, G, hm, b⟩ := D_law.ex
  have e : fa = f := by
    have := hfa.symm.trans hm
    cases this
    rfl
  subst e
  refine ⟨fd, bl _ _ G, fun base _ _ => ?_⟩
  letI : Tbl := ⟨[]⟩
  have C_sign := ok_sign (P := l.prog) (w := w) (base := base) B  D_sign
  have C_lead := ok_lead (P := l.prog) (w := w) (base := base) B C_sign D_lead
  have C_table := ok_table (P := l.prog) (w := w) (base := base) B C_lead D_table
  have K_Urn := mk_Urn (P := l.prog) (w := w) (base := base) B U  D_Urn___init__
  have M_add := met_add (P := l.prog) (w := w) (base := base) B U C_sign D_Urn_add
  have M_put := met_put (P := l.prog) (w := w) (base := base) B U M_add D_Urn_put
  have MX_take := metX_take (P := l.prog) (w := w) (base := base) B N7 U M_add D_Urn_take
  have M_counted := met_counted (P := l.prog) (w := w) (base := base) B U  D_Urn_counted
  have M_box := met_box (P := l.prog) (w := w) (base := base) B U  D_Urn_box
  have C__law_cell := ok__law_cell (P := l.prog) (w := w) (base := base) B  D__law_cell
  have C__law_mix := ok__law_mix (P := l.prog) (w := w) (base := base) B  D__law_mix
  have C__law_ballot := ok__law_ballot (P := l.prog) (w := w) (base := base) B C__law_mix D__law_ballot
  have C__law_box := ok__law_box (P := l.prog) (w := w) (base := base) B C__law_cell C__law_mix C__law_ballot D__law_box
  have C__law_lead := ok__law_lead (P := l.prog) (w := w) (base := base) B  D__law_lead
  have C__law_taken := ok__law_taken (P := l.prog) (w := w) (base := base) B N7 MX_take D__law_taken
  have C__law_right := ok__law_right (P := l.prog) (w := w) (base := base) B C_table C__law_lead M_counted M_box D__law_right
  exact ok_law (P := l.prog) (w := w) (base := base) B K_Urn M_put C__law_cell C__law_mix C__law_ballot C__law_box C__law_taken C__law_right G
end Wl
open PySem PySem.W PyProof.Rows in
set_option maxRecDepth 100000 in
set_option maxHeartbeats 0 in
theorem PySem.Challenge.cw_wishcount_k11_whole_urns_holds : PySem.Challenge.rw_wishcount_k11_whole_urns.Holds := by
  w_on; o_law; k_head; (case hw => w_witness2)
  k_fill
  refine Wl.walk (l := PySem.Challenge.rw_wishcount_k11_whole_urns) rfl rfl (fun w h Y => PySem.W.kIn_of Y) ?F
  case F =>
    intro w mg fa h KX G hmg
    have B : Wd.Bt mg := Wd.bt_mk KX G (by k_is) (by k_is) (by k_is) (by k_is) (by k_is) (by k_is) (by k_is) (by k_is) (by k_is) (by k_is) (by k_is) (by k_is) (by k_is) (by k_is)
    have D_sign := Wd.def_mk (x := "sign") (st := Wl.s_sign) (ps := ["ballot", "one", "other"]) KX G (by k_is) (by k_is) (by k_is) (by k_is) (fun _ _ _ _ _ _ us hl => match us, hl with | [_, _, _], _ => rfl)
    have D_lead := Wd.def_mk (x := "lead") (st := Wl.s_lead) (ps := ["box", "one", "other"]) KX G (by k_is) (by k_is) (by k_is) (by k_is) (fun _ _ _ _ _ _ us hl => match us, hl with | [_, _, _], _ => rfl)
    have D_table := Wd.def_mk (x := "table") (st := Wl.s_table) (ps := ["box"]) KX G (by k_is) (by k_is) (by k_is) (by k_is) (fun _ _ _ _ _ _ us hl => match us, hl with | [_], _ => rfl)
    have D__law_cell := Wd.def_mk (x := "_law_cell") (st := Wl.s__law_cell) (ps := ["_law_script", "_law_k"]) KX G (by k_is) (by k_is) (by k_is) (by k_is) (fun _ _ _ _ _ _ us hl => match us, hl with | [_, _], _ => rfl)
    have D__law_mix := Wd.def_mk (x := "_law_mix") (st := Wl.s__law_mix) (ps := ["_law_cell_here", "_law_prime", "_law_many"]) KX G (by k_is) (by k_is) (by k_is) (by k_is) (fun _ _ _ _ _ _ us hl => match us, hl with | [_, _, _], _ => rfl)
    have D__law_ballot := Wd.def_mk (x := "_law_ballot") (st := Wl.s__law_ballot) (ps := ["_law_cell_here", "_law_many", "_law_way"]) KX G (by k_is) (by k_is) (by k_is) (by k_is) (fun _ _ _ _ _ _ us hl => match us, hl with | [_, _, _], _ => rfl)
    have D__law_box := Wd.def_mk (x := "_law_box") (st := Wl.s__law_box) (ps := ["_law_script", "_law_most"]) KX G (by k_is) (by k_is) (by k_is) (by k_is) (fun _ _ _ _ _ _ us hl => match us, hl with | [_, _], _ => rfl)
    have D__law_lead := Wd.def_mk (x := "_law_lead") (st := Wl.s__law_lead) (ps := ["_law_box_here", "_law_one", "_law_other"]) KX G (by k_is) (by k_is) (by k_is) (by k_is) (fun _ _ _ _ _ _ us hl => match us, hl with | [_, _, _], _ => rfl)
    have D__law_taken := Wd.def_mk (x := "_law_taken") (st := Wl.s__law_taken) (ps := ["_law_urn", "_law_ballot_here"]) KX G (by k_is) (by k_is) (by k_is) (by k_is) (fun _ _ _ _ _ _ us hl => match us, hl with | [_, _], _ => rfl)
    have D__law_right := Wd.def_mk (x := "_law_right") (st := Wl.s__law_right) (ps := ["_law_urn", "_law_many", "_law_left"]) KX G (by k_is) (by k_is) (by k_is) (by k_is) (fun _ _ _ _ _ _ us hl => match us, hl with | [_, _, _], _ => rfl)
    have D_law := Wd.def_mk (x := "law") (st := Wl.s_law) (ps := ["_law_script"]) KX G (by k_is) (by k_is) (by k_is) (by k_is) (fun _ _ _ _ _ _ us hl => match us, hl with | [_], _ => rfl)
    have N7 := W7.nb_mk (mg := mg) KX G (by k_is) (by k_is) (by k_is) (by k_exc) (by k_is) (by k_is) (by k_is) (by k_is) (by k_is) (by k_is) (by k_is) (by k_is) (by k_is) (by k_is) (by k_is) (by k_is) (by k_is) (by k_is) (by k_is)
    have U := W11.uc_mk (mg := mg) (x := "Urn") KX (by k_is) (by k_is) (by k_is) (by k_is) (by k_is) (by k_is) (by k_is) (by k_is)
    have D_Urn___init__ := W11.mkat_mk (x := "Urn") (qual := "Urn.__init__") (st := Wl.s_Urn___init__) (ps := ["self", "many"]) KX G (by k_is) (by k_is) (by k_is) (by k_is) (by k_is) (by k_is) (by k_is) (by k_is) (fun _ _ _ _ _ _ us hl => match us, hl with | [_, _], _ => rfl)
    have D_Urn_add := W11.met_mk (x := "Urn") (m := "add") (qual := "Urn.add") (st := Wl.s_Urn_add) (ps := ["self", "ballot", "by"]) KX (by k_is) (by k_is) (by k_is) (by k_is) (by k_is) (by k_is) (fun _ _ _ _ _ _ us hl => match us, hl with | [_, _, _], _ => rfl)
    have D_Urn_put := W11.met_mk (x := "Urn") (m := "put") (qual := "Urn.put") (st := Wl.s_Urn_put) (ps := ["self", "ballot"]) KX (by k_is) (by k_is) (by k_is) (by k_is) (by k_is) (by k_is) (fun _ _ _ _ _ _ us hl => match us, hl with | [_, _], _ => rfl)
    have D_Urn_take := W11.met_mk (x := "Urn") (m := "take") (qual := "Urn.take") (st := Wl.s_Urn_take) (ps := ["self", "ballot"]) KX (by k_is) (by k_is) (by k_is) (by k_is) (by k_is) (by k_is) (fun _ _ _ _ _ _ us hl => match us, hl with | [_, _], _ => rfl)
    have D_Urn_counted := W11.met_mk (x := "Urn") (m := "counted") (qual := "Urn.counted") (st := Wl.s_Urn_counted) (ps := ["self"]) KX (by k_is) (by k_is) (by k_is) (by k_is) (by k_is) (by k_is) (fun _ _ _ _ _ _ us hl => match us, hl with | [_], _ => rfl)
    have D_Urn_box := W11.met_mk (x := "Urn") (m := "box") (qual := "Urn.box") (st := Wl.s_Urn_box) (ps := ["self"]) KX (by k_is) (by k_is) (by k_is) (by k_is) (by k_is) (by k_is) (fun _ _ _ _ _ _ us hl => match us, hl with | [_], _ => rfl)
    exact Wl.law_mk hmg B N7 U D_Urn___init__ D_Urn_add D_Urn_put D_Urn_take D_Urn_counted D_Urn_box D_sign D_lead D_table D__law_cell D__law_mix D__law_ballot D__law_box D__law_lead D__law_taken D__law_right D_law (fun f fd G s v => by obtain ⟨oc, od, kV, doc, pm, an, cdv, ct, osl, rfl, _, _⟩ := G.ex; exact .of_eq rfl)
