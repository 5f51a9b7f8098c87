import PyProof.Rows.All
import Wide.All
import OpenK.AllK
import Wide.FinOn
import PySem.Challenge.RW_wrongclock_k60_whole_texts
import HandS.ForMost
import HandS.ForExc
import HandS.AnyAll
import HandS.Lambda
import HandS.Flow
import HandS.IsInst
import HandS.Zip
import HandS.TupAny
import HandS.Style
import HandS.SortInts
import HandS.ExcOwn
import HandS.ExcField
import HandS.ForSpec
import HandS.SetFor
import KE.SortData
import HandS.Nested
import HandS.EndTab
/-! ## Z0 -/
section
set_option Elab.async false
set_option linter.all false
set_option maxRecDepth 100000
set_option maxHeartbeats 4000000
/-! The ground: data heap B, mutable part M, real heap H; what a step may do. -/
namespace Zd
open PySem PySem.Spec PyProof.Rows L2

/-! ### data -/
mutual
/-- the value is the data, its lists and tuples tracked -/
inductive Rp (B : Hp) : V → PyData → Prop
  | non : Rp B .non .none
  | bl (b : Bool) : Rp B (.bl b) (.bool b)
  | int (i : Int) : Rp B (.int i) (.int i)
  | str (x : Str) : Rp B (.str x) (.str x)
  | lst {a : Addr} {xs : List V} {ds : List PyData} : B a = some (.lst xs) → RpA B xs ds → Rp B (.ref a) (.list ds)
  | tup {a : Addr} {xs : List V} {ds : List PyData} : B a = some (.tup xs) → RpA B xs ds → Rp B (.ref a) (.tuple ds)
inductive RpA (B : Hp) : List V → List PyData → Prop
  | nil : RpA B [] []
  | cons {v : V} {vs : List V} {d : PyData} {ds : List PyData} : Rp B v d → RpA B vs ds → RpA B (v :: vs) (d :: ds)
end
mutual
theorem dp_mono {B B' : Hp} (k : ∀ a o, B a = some o → B' a = some o) : ∀ (d : PyData) (v : V), Rp B v d → Rp B' v d
  | .none, _, h => by cases h; exact .non
  | .bool b, _, h => by cases h; exact .bl b
  | .int i, _, h => by cases h; exact .int i
  | .str x, _, h => by cases h; exact .str x
  | .list ds, _, h => by
    cases h with
    | lst s a => exact .lst (k _ _ s) (dpa_mono k ds _ a)
  | .tuple ds, _, h => by
    cases h with
    | tup s a => exact .tup (k _ _ s) (dpa_mono k ds _ a)
  | .dict _, _, h => by cases h
theorem dpa_mono {B B' : Hp} (k : ∀ a o, B a = some o → B' a = some o) : ∀ (ds : List PyData) (vs : List V), RpA B vs ds → RpA B' vs ds
  | [], _, h => by cases h; exact .nil
  | d :: ds, _, h => by
    cases h with
    | cons h1 h2 => exact .cons (dp_mono k d _ h1) (dpa_mono k ds _ h2)
end
theorem dpa_len {B : Hp} : ∀ {ds : List PyData} {vs : List V}, RpA B vs ds → vs.length = ds.length
  | [], _, h => by cases h; rfl
  | d :: ds, _, h => by
    cases h with
    | cons h1 h2 => rw [List.length_cons, List.length_cons, dpa_len h2]
theorem dpa_get {B : Hp} : ∀ {ds : List PyData} {vs : List V} {i : Nat} {d : PyData}, RpA B vs ds → ds[i]? = some d → ∃ v, vs[i]? = some v ∧ Rp B v d
  | [], _, _, _, _, e => by simp at e
  | d :: ds, _, i, d', h, e => by
    cases h with
    | cons h1 h2 =>
      cases i with
      | zero =>
        rw [List.getElem?_cons_zero] at e
        cases e
        exact ⟨_, rfl, h1⟩
      | succ i =>
        rw [List.getElem?_cons_succ] at e
        obtain ⟨v, a, b⟩ := dpa_get h2 e
        exact ⟨v, by rw [List.getElem?_cons_succ]; exact a, b⟩
theorem dpa_app {B : Hp} : ∀ {ds es : List PyData} {vs ws : List V}, RpA B vs ds → RpA B ws es → RpA B (vs ++ ws) (ds ++ es)
  | [], _, _, _, h, h' => by cases h; exact h'
  | d :: ds, _, _, _, h, h' => by
    cases h with
    | cons h1 h2 => exact .cons h1 (dpa_app h2 h')
theorem dpa_take {B : Hp} : ∀ {ds : List PyData} {vs : List V} (n : Nat), RpA B vs ds → RpA B (vs.take n) (ds.take n)
  | _, _, 0, _ => .nil
  | [], _, n + 1, h => by cases h; exact .nil
  | d :: ds, _, n + 1, h => by
    cases h with
    | cons h1 h2 => exact .cons h1 (dpa_take n h2)
theorem dpa_drop {B : Hp} : ∀ {ds : List PyData} {vs : List V} (n : Nat), RpA B vs ds → RpA B (vs.drop n) (ds.drop n)
  | _, _, 0, h => h
  | [], _, n + 1, h => by cases h; exact .nil
  | d :: ds, _, n + 1, h => by
    cases h with
    | cons h1 h2 => exact dpa_drop n h2
theorem dpa_cut {B : Hp} {ds : List PyData} {vs : List V} {lo hi : Option Int} (h : RpA B vs ds) :
    RpA B (cutV vs lo hi) ((ds.drop (HT.sIx ds.length 0 lo)).take (HT.sIx ds.length ds.length hi - HT.sIx ds.length 0 lo)) := by
  unfold cutV
  rw [dpa_len h]
  exact dpa_take _ (dpa_drop _ h)
theorem dpa_ints {B : Hp} : ∀ {ns : List Int} {vs : List V}, RpA B vs (ns.map PyData.int) → vs = ns.map V.int
  | [], _, h => by cases h; rfl
  | n :: ns, _, h => by
    cases h with
    | cons h1 h2 =>
      cases h1
      rw [dpa_ints h2]
      rfl
theorem dpa_strs {B : Hp} : ∀ {ns : List Str} {vs : List V}, RpA B vs (ns.map PyData.str) → vs = ns.map V.str
  | [], _, h => by cases h; rfl
  | n :: ns, _, h => by
    cases h with
    | cons h1 h2 =>
      cases h1
      rw [dpa_strs h2]
      rfl
theorem dpa_ofInts {B : Hp} : ∀ (ns : List Int), RpA B (ns.map V.int) (ns.map PyData.int)
  | [] => .nil
  | n :: ns => .cons (.int n) (dpa_ofInts ns)
theorem dpa_ofStrs {B : Hp} : ∀ (ns : List Str), RpA B (ns.map V.str) (ns.map PyData.str)
  | [] => .nil
  | n :: ns => .cons (.str n) (dpa_ofStrs ns)

mutual
theorem rp_dp {K : PySem.W.Frag} {B H : Hp} (k : ∀ a o, B a = some o → H a = some o) : ∀ (d : PyData) (v : V), Rp B v d → Dp K H v d
  | .none, _, h => by cases h; exact .non
  | .bool b, _, h => by cases h; exact .bl b
  | .int i, _, h => by cases h; exact .int i
  | .str x, _, h => by cases h; exact .str x
  | .list ds, _, h => by
    cases h with
    | lst s a => exact .lst (.inl (.inl (k _ _ s))) (rpa_dp k ds _ a)
  | .tuple ds, _, h => by
    cases h with
    | tup s a => exact .tup (.inl (.inl (k _ _ s))) (rpa_dp k ds _ a)
  | .dict _, _, h => by cases h
theorem rpa_dp {K : PySem.W.Frag} {B H : Hp} (k : ∀ a o, B a = some o → H a = some o) : ∀ (ds : List PyData) (vs : List V), RpA B vs ds → DpAll K H vs ds
  | [], _, h => by cases h; exact .nil
  | d :: ds, _, h => by
    cases h with
    | cons h1 h2 => exact .cons (rp_dp k d _ h1) (rpa_dp k ds _ h2)
end
/-! ### slots -/
inductive Sl where
  | no
  | raw (v : V)
  | dat (d : PyData)
def SlV (B : Hp) : Sl → V → Prop
  | .no, _ => True
  | .raw v, u => u = v
  | .dat d, u => Rp B u d
def SlO (B : Hp) : Sl → Option V → Prop
  | .no, _ => True
  | .raw v, o => o = some v
  | .dat d, o => ∃ v, o = some v ∧ Rp B v d
abbrev Sls (B : Hp) : List Sl → L2.St → Prop := Paired (SlO B)
inductive SlVs (B : Hp) : List Sl → List V → Prop
  | nil : SlVs B [] []
  | cons {d : Sl} {ds : List Sl} {v : V} {vs : List V} : SlV B d v → SlVs B ds vs → SlVs B (d :: ds) (v :: vs)
section
variable {B B' : Hp}
theorem SlV.mono (k : ∀ a o, B a = some o → B' a = some o) {d : Sl} {v : V} (h : SlV B d v) : SlV B' d v := by
  cases d with
  | no => trivial
  | raw _ => exact h
  | dat d => exact dp_mono k d v h
theorem SlO.mono (k : ∀ a o, B a = some o → B' a = some o) {d : Sl} {v : Option V} (h : SlO B d v) : SlO B' d v := by
  cases d with
  | no => trivial
  | raw _ => exact h
  | dat d =>
    obtain ⟨u, e, h⟩ := h
    exact ⟨u, e, dp_mono k d u h⟩
theorem SlVs.mono (k : ∀ a o, B a = some o → B' a = some o) {ds : List Sl} {vs : List V} (h : SlVs B ds vs) : SlVs B' ds vs := by
  induction h with
  | nil => exact .nil
  | cons a _ ih => exact .cons (a.mono k) ih
theorem Sls.mono (k : ∀ a o, B a = some o → B' a = some o) {ds : List Sl} {σ : L2.St} (h : Sls B ds σ) : Sls B' ds σ := Paired.mapP h fun _ _ x => x.mono k
theorem SlV.o {d : Sl} {v : V} (h : SlV B d v) : SlO B d (some v) := by
  cases d with
  | no => trivial
  | raw w => exact congrArg some (show v = w from h)
  | dat d => exact ⟨v, rfl, h⟩
theorem SlO.v {d : Sl} {o : Option V} (n : d ≠ .no) (h : SlO B d o) : ∃ v, o = some v ∧ SlV B d v := by
  cases d with
  | no => exact absurd rfl n
  | raw w => exact ⟨w, h, rfl⟩
  | dat d => exact h
theorem Sls.get : ∀ {ds : List Sl} {σ : L2.St} {i : Nat} {d : Sl}, Sls B ds σ → ds[i]? = some d → d ≠ .no → ∃ v, σ[i]? = some (some v) ∧ SlV B d v
  | _, _, _, _, .nil, e, _ => by simp at e
  | _ :: _, _, 0, d, .cons r _, e, n => by
    rw [List.getElem?_cons_zero] at e
    cases e
    obtain ⟨v, e, h⟩ := r.v n
    exact ⟨v, by rw [e]; rfl, h⟩
  | _ :: ds, _ :: σ, i + 1, d, .cons _ t, e, n => by
    rw [List.getElem?_cons_succ] at e
    obtain ⟨v, a, b⟩ := Sls.get (ds := ds) (σ := σ) (i := i) t e n
    exact ⟨v, by rw [List.getElem?_cons_succ]; exact a, b⟩
theorem Sls.set {d : Sl} {o : Option V} (h : SlO B d o) : ∀ {ds : List Sl} {σ : L2.St} (i : Nat), Sls B ds σ → Sls B (ds.set i d) (σ.set i o)
  | _, _, _, .nil => .nil
  | _, _, 0, .cons _ t => .cons h t
  | _, _, i + 1, .cons r t => .cons r (Sls.set h i t)
theorem Sls.len {ds : List Sl} {σ : L2.St} (h : Sls B ds σ) : ds.length = σ.length := Paired.length h
def wipeS (ds : List Sl) : List Nat → List Sl
  | [] => ds
  | v :: vs => (wipeS ds vs).set v .no
theorem Sls.wipe {ds : List Sl} {σ : L2.St} (h : Sls B ds σ) : ∀ vs : List Nat, Sls B (wipeS ds vs) (L2.wipe σ vs)
  | [] => h
  | v :: vs => Sls.set (d := .no) (o := none) trivial v (Sls.wipe h vs)
theorem Sls.start : ∀ {as : List Sl} {vs : List V} (n : Nat), SlVs B as vs → Sls B (as ++ List.replicate n .no) (vs.map some ++ List.replicate n none)
  | _, _, n, .nil => by
    induction n with
    | zero => exact .nil
    | succ n ih => exact .cons trivial ih
  | _, _, n, .cons h t => .cons h.o (Sls.start n t)
theorem SlVs.len {ds : List Sl} {vs : List V} (h : SlVs B ds vs) : ds.length = vs.length := by
  induction h with
  | nil => rfl
  | cons _ _ ih => rw [List.length_cons, List.length_cons, ih]
theorem SlVs.app {ds es : List Sl} {vs ws : List V} (h : SlVs B ds vs) (g : SlVs B es ws) : SlVs B (ds ++ es) (vs ++ ws) := by
  induction h with
  | nil => exact g
  | cons a _ ih => exact .cons a ih
end
/-! ### worlds -/
def NT (o : HO) : Prop := ∀ ps, o ≠ .tbl ps
/-- the written part, the three tables of code objects, the lambdas' name, the two error classes -/
structure Cg where
  K : PySem.W.Frag
  PN : Addr
  PA : Addr
  PL : Addr
  qL : Str
  CT : Addr
  CS : Addr
def Tb (c : Cg) (H : Hp) : Prop := GxR.TabG H c.PN ∧ GxR.TabG H c.PA ∧ LamX.TabS H c.PL c.qL ∧ c.PN ≠ c.PA ∧ c.PN ≠ c.PL ∧ c.PA ≠ c.PL
def Tish (o : HO) : Prop := (∃ ps, o = .tbl ps) ∨ ∃ φ, o = .ext φ
theorem Tb.step {c : Cg} {H H' : Hp} (t : Tb c H) (k : ∀ a o, H a = some o → Tish o → H' a = some o) : Tb c H' := by
  obtain ⟨⟨p1, a1, b1⟩, ⟨p2, a2, b2⟩, ⟨p3, a3, b3, c3⟩, n⟩ := t
  refine ⟨⟨p1, k _ _ a1 (.inl ⟨_, rfl⟩), b1⟩, ⟨p2, k _ _ a2 (.inl ⟨_, rfl⟩), b2⟩, ⟨p3, k _ _ a3 (.inl ⟨_, rfl⟩), b3, fun pos cv e => ?_⟩, n⟩
  obtain ⟨x, e1, e2⟩ := c3 pos cv e
  exact ⟨x, e1, k _ _ e2 (.inr ⟨_, rfl⟩)⟩
/-- what may be written (or is held by its object), told by data -/
inductive MO where
  | lst (xs : List Sl)
  | ins (C dx : Addr) (fs : List (Str × Sl))
  | own (x : Addr)
  | frz (o : Obj) (xs : List V)
abbrev Mp := Addr → Option MO
def updM (M : Mp) (a : Addr) (o : MO) : Mp := fun b => if b = a then some o else M b
theorem updM_same {M : Mp} {a : Addr} {o : MO} : updM M a o a = some o := by unfold updM; rw [if_pos rfl]
theorem updM_ne {M : Mp} {a b : Addr} {o : MO} (h : b ≠ a) : updM M a o b = M b := by unfold updM; rw [if_neg h]
theorem updM_updM {M : Mp} {a : Addr} {o u : MO} : updM (updM M a o) a u = updM M a u := by
  funext b
  unfold updM
  split <;> rfl
inductive MoR (B : Hp) : MO → HO → Prop
  | lst {ds : List Sl} {xs : List V} (h : SlVs B ds xs) : MoR B (.lst ds) (.lst xs)
  | ins {C dx : Addr} {fs : List (Str × Sl)} {gs : List (Str × V)} (h : Paired (fun (p : Str × Sl) (q : Str × V) => p.1 = q.1 ∧ SlV B p.2 q.2) fs gs) : MoR B (.ins C dx fs) (.ins C dx gs)
  | own {x : Addr} : MoR B (.own x) (.own x)
  | frz {o : Obj} {xs : List V} : MoR B (.frz o xs) (.frz o (.lst xs))
theorem MoR.not {B : Hp} {m : MO} {o : HO} (x : MoR B m o) : ¬ Tish o := by
  rintro (⟨_, e⟩ | ⟨_, e⟩) <;> (cases x <;> cases e)
theorem MoR.nt {B : Hp} {m : MO} {o : HO} (x : MoR B m o) : NT o := fun ps e => x.not (.inl ⟨ps, e⟩)
theorem MoR.mono {B B' : Hp} (k : ∀ a o, B a = some o → B' a = some o) {m : MO} {o : HO} (x : MoR B m o) : MoR B' m o := by
  cases x with
  | lst h => exact .lst (h.mono k)
  | ins h => exact .ins (Paired.mapP h fun _ _ z => ⟨z.1, z.2.mono k⟩)
  | own => exact .own
  | frz => exact .frz
structure Wd (c : Cg) (B : Hp) (M : Mp) (H : Hp) : Prop where
  b : ∀ a o, B a = some o → NT o ∧ M a = none ∧ H a = some o
  m : ∀ a o, M a = some o → ∃ u, MoR B o u ∧ H a = some u
  t : Tb c H
structure Go (c : Cg) (M : Mp) (H B : Hp) (M' : Mp) (H' B' : Hp) : Prop where
  w : Wd c B' M' H'
  b : ∀ a o, B a = some o → B' a = some o
  f : ∀ a o, H a = some o → NT o → M a = none → H' a = some o
  g : ∀ a o, H a = some o → M a = none → M' a = none
  p : ∀ a o, H a = some o → ∃ o', H' a = some o'
  n : ∀ a o, H a = some o → B a = none → B' a = none
section
variable {c : Cg} {H B H1 B1 H2 B2 : Hp} {M M1 M2 : Mp}
theorem Go.refl (w : Wd c B M H) : Go c M H B M H B := ⟨w, fun _ _ e => e, fun _ _ e _ _ => e, fun _ _ _ e => e, fun _ o e => ⟨o, e⟩, fun _ _ _ e => e⟩
theorem Go.trans (x : Go c M H B M1 H1 B1) (y : Go c M1 H1 B1 M2 H2 B2) : Go c M H B M2 H2 B2 where
  w := y.w
  b := fun a o e => y.b a o (x.b a o e)
  f := fun a o e n m => y.f a o (x.f a o e n m) n (x.g a o e m)
  g := fun a o e m => by
    obtain ⟨o', e'⟩ := x.p a o e
    exact y.g a o' e' (x.g a o e m)
  p := fun a o e => by
    obtain ⟨o', e'⟩ := x.p a o e
    exact y.p a o' e'
  n := fun a o e m => by
    obtain ⟨o', e'⟩ := x.p a o e
    exact y.n a o' e' (x.n a o e m)
theorem Wd.freeM (w : Wd c B M H) {p : Addr} (h : H p = none) : M p = none := by
  cases e : M p with
  | none => rfl
  | some o =>
    obtain ⟨u, _, z⟩ := w.m p o e
    rw [h] at z
    cases z
theorem Wd.freeB (w : Wd c B M H) {p : Addr} (h : H p = none) : B p = none := by
  cases e : B p with
  | none => rfl
  | some o =>
    have := (w.b p o e).2.2
    rw [h] at this
    cases this
/-- a new object, data from now on -/
theorem Go.new (w : Wd c B M H) {p : Addr} {o : HO} (h : H p = none) (n : NT o) : Go c M H B M (upd H p o) (upd B p o) where
  w := {
    b := fun a u e => by
      by_cases q : a = p
      · subst q
        rw [upd_same] at e
        cases e
        exact ⟨n, w.freeM h, upd_same⟩
      · rw [upd_ne q] at e
        rw [upd_ne q]
        exact w.b a u e
    m := fun a u e => by
      obtain ⟨x, r, z⟩ := w.m a u e
      exact ⟨x, r.mono fun b v q => by rw [upd_ne (ne_of_none q (w.freeB h))]; exact q, by rw [upd_ne (ne_of_none z h)]; exact z⟩
    t := w.t.step fun a u e _ => by rw [upd_ne (ne_of_none e h)]; exact e }
  b := fun a u e => by rw [upd_ne (ne_of_none e (w.freeB h))]; exact e
  f := fun a u e _ _ => by rw [upd_ne (ne_of_none e h)]; exact e
  g := fun _ _ _ e => e
  p := fun a u e => ⟨u, by rw [upd_ne (ne_of_none e h)]; exact e⟩
  n := fun a u e m => by rw [upd_ne (ne_of_none e h)]; exact m
/-- a new object that nobody asks for -/
theorem Go.newX (w : Wd c B M H) {p : Addr} {o : HO} (h : H p = none) : Go c M H B M (upd H p o) B where
  w := {
    b := fun a u e => by
      have z := w.b a u e
      rw [upd_ne (ne_of_none z.2.2 h)]
      exact z
    m := fun a u e => by
      obtain ⟨x, r, z⟩ := w.m a u e
      exact ⟨x, r, by rw [upd_ne (ne_of_none z h)]; exact z⟩
    t := w.t.step fun a u e _ => by rw [upd_ne (ne_of_none e h)]; exact e }
  b := fun a u e => e
  f := fun a u e _ _ => by rw [upd_ne (ne_of_none e h)]; exact e
  g := fun _ _ _ e => e
  p := fun a u e => ⟨u, by rw [upd_ne (ne_of_none e h)]; exact e⟩
  n := fun _ _ _ m => m
/-- an object of no data and no mutable part is changed -/
theorem Go.setX (w : Wd c B M H) {p : Addr} {o o' : HO} (h : H p = some o) (nt : ¬ Tish o) (hB : B p = none) (hM : M p = none) : Wd c B M (upd H p o') where
  b := fun a u e => by
    have z := w.b a u e
    have q : a ≠ p := ne_of_none e hB
    rw [upd_ne q]
    exact z
  m := fun a u e => by
    obtain ⟨x, r, z⟩ := w.m a u e
    have q : a ≠ p := fun q => by rw [q, hM] at e; cases e
    exact ⟨x, r, by rw [upd_ne q]; exact z⟩
  t := w.t.step fun a u e t => by
    have q : a ≠ p := fun q => by
      rw [q, h] at e
      cases e
      exact nt t
    rw [upd_ne q]
    exact e
/-- what is new since H0 may be changed -/
theorem Go.onX {M0 : Mp} {H0 B0 : Hp} (g : Go c M0 H0 B0 M H B) {p : Addr} {o o' : HO} (h0 : H0 p = none) (h : H p = some o) (nt : ¬ Tish o) (hB : B p = none) (hM : M p = none) : Go c M0 H0 B0 M (upd H p o') B where
  w := Go.setX g.w h nt hB hM
  b := g.b
  f := fun a u e n m => by rw [upd_ne (ne_of_none e h0)]; exact g.f a u e n m
  g := g.g
  p := fun a u e => by
    obtain ⟨u', e'⟩ := g.p a u e
    exact ⟨u', by rw [upd_ne (ne_of_none e h0)]; exact e'⟩
  n := g.n
/-- what is new since H0 becomes data -/
theorem Go.asB {M0 : Mp} {H0 B0 : Hp} (g : Go c M0 H0 B0 M H B) {p : Addr} {o : HO} (h0 : H0 p = none) (h : H p = some o) (nt : NT o) (hB : B p = none) (hM : M p = none) : Go c M0 H0 B0 M H (upd B p o) where
  w := {
    b := fun a u e => by
      by_cases q : a = p
      · subst q
        rw [upd_same] at e
        cases e
        exact ⟨nt, hM, h⟩
      · rw [upd_ne q] at e
        exact g.w.b a u e
    m := fun a u e => by
      obtain ⟨x, r, z⟩ := g.w.m a u e
      exact ⟨x, r.mono fun b v q => by rw [upd_ne (ne_of_none q hB)]; exact q, z⟩
    t := g.w.t }
  b := fun a u e => by rw [upd_ne (ne_of_none (g.b a u e) hB)]; exact g.b a u e
  f := g.f
  g := g.g
  p := g.p
  n := fun a u e m => by rw [upd_ne (ne_of_none e h0)]; exact g.n a u e m
/-- a new mutable object -/
theorem Go.newM (w : Wd c B M H) {p : Addr} {o : MO} {u : HO} (h : H p = none) (n : MoR B o u) : Go c M H B (updM M p o) (upd H p u) B where
  w := {
    b := fun a v e => by
      have z := w.b a v e
      have q : a ≠ p := ne_of_none z.2.2 h
      rw [upd_ne q, updM_ne q]
      exact z
    m := fun a v e => by
      by_cases q : a = p
      · subst q
        rw [updM_same] at e
        cases e
        exact ⟨u, n, upd_same⟩
      · rw [updM_ne q] at e
        rw [upd_ne q]
        exact w.m a v e
    t := w.t.step fun a v e _ => by rw [upd_ne (ne_of_none e h)]; exact e }
  b := fun a u e => e
  f := fun a u e _ _ => by rw [upd_ne (ne_of_none e h)]; exact e
  g := fun a u e m => by rw [updM_ne (ne_of_none e h)]; exact m
  p := fun a u e => ⟨u, by rw [upd_ne (ne_of_none e h)]; exact e⟩
  n := fun _ _ _ m => m
/-- a mutable object is changed -/
theorem Go.set (w : Wd c B M H) {r : Addr} {o o' : MO} {u' : HO} (h : M r = some o) (n : MoR B o' u') : Go c M H B (updM M r o') (upd H r u') B where
  w := {
    b := fun a v e => by
      have z := w.b a v e
      have q : a ≠ r := fun q => by rw [q, h] at z; cases z.2.1
      rw [upd_ne q, updM_ne q]
      exact z
    m := fun a v e => by
      by_cases q : a = r
      · subst q
        rw [updM_same] at e
        cases e
        exact ⟨u', n, upd_same⟩
      · rw [updM_ne q] at e
        rw [upd_ne q]
        exact w.m a v e
    t := w.t.step fun a v e t => by
      have q : a ≠ r := fun q => by
        obtain ⟨x, y, z⟩ := w.m r o h
        rw [← q, e] at z
        cases z
        exact y.not t
      rw [upd_ne q]
      exact e }
  b := fun a u e => e
  f := fun a v e _ m => by
    have q : a ≠ r := fun q => by rw [q, h] at m; cases m
    rw [upd_ne q]
    exact e
  g := fun a v e m => by
    have q : a ≠ r := fun q => by rw [q, h] at m; cases m
    rw [updM_ne q]
    exact m
  p := fun a v e => by
    by_cases q : a = r
    · exact ⟨u', by rw [q, upd_same]⟩
    · exact ⟨v, by rw [upd_ne q]; exact e⟩
  n := fun _ _ _ m => m
/-- the table of one def has grown -/
theorem Go.grow (w : Wd c B M H) {P : Addr} (hP : P = c.PN ∨ P = c.PA) (t : GxR.Tabbed P H H2) : Go c M H B M H2 B := by
  obtain ⟨⟨q1, a1, b1⟩, ⟨q2, a2, b2⟩, ⟨q3, a3, b3, c3⟩, n1, n2, n3⟩ := w.t
  have tP : ∃ ps, H P = some (.tbl ps) := by
    rcases hP with e | e <;> rw [e]
    · exact ⟨_, a1⟩
    · exact ⟨_, a2⟩
  obtain ⟨ps, hps⟩ := tP
  have ne : ∀ a o, H a = some o → NT o → a ≠ P := fun a o e n z => by
    rw [z, hps] at e
    cases e
    exact n _ rfl
  obtain ⟨tg, same⟩ := t
  refine ⟨⟨fun a o e => ?_, fun a o e => ?_, ?_⟩, fun _ _ e => e, fun a o e n _ => ?_, fun _ _ _ m => m, fun a o e => ?_, fun _ _ _ m => m⟩
  · obtain ⟨x, y, z⟩ := w.b a o e
    exact ⟨x, y, by rw [same a (ne a o z x)]; exact z⟩
  · obtain ⟨u, x, z⟩ := w.m a o e
    exact ⟨u, x, by rw [same a (ne a u z x.nt)]; exact z⟩
  · have nL : c.PL ≠ P := by
      rcases hP with e | e <;> rw [e]
      · exact n2.symm
      · exact n3.symm
    have L : LamX.TabS H2 c.PL c.qL := ⟨q3, by rw [same _ nL]; exact a3, b3, fun pos cv e => by
      obtain ⟨x, e1, e2⟩ := c3 pos cv e
      refine ⟨x, e1, ?_⟩
      rw [same x (ne x _ e2 fun ps => LamX.codeO_ne ps)]
      exact e2⟩
    rcases hP with e | e
    · subst e
      refine ⟨tg, ⟨q2, ?_, b2⟩, L, n1, n2, n3⟩
      rw [same _ n1.symm]
      exact a2
    · subst e
      refine ⟨⟨q1, ?_, b1⟩, tg, L, n1, n2, n3⟩
      rw [same _ n1]
      exact a1
  · rw [same a (ne a o e n)]
    exact e
  · by_cases z : a = P
    · obtain ⟨ps', h', _⟩ := tg
      exact ⟨_, by rw [z]; exact h'⟩
    · exact ⟨o, by rw [same a z]; exact e⟩
end
end Zd
end
/-! ## Z1 -/
section
set_option Elab.async false
set_option linter.all false
set_option maxRecDepth 100000
set_option maxHeartbeats 4000000
/-! Judgements over data: expressions. -/
namespace Zd
open PySem PySem.Spec PyProof.Rows L2

section
variable (c : Cg)
def tD (ds : List Sl) (M : Mp) (d : Sl) (M' : Mp) : TE := fun σ H Q => ∃ B, Wd c B M H ∧ Sls B ds σ ∧ ∀ v B' H', Go c M H B M' H' B' → SlV B' d v → Q v H'
def tDs (ds : List Sl) (M : Mp) (as : List Sl) (M' : Mp) : TA := fun σ H Q => ∃ B, Wd c B M H ∧ Sls B ds σ ∧ ∀ vs B' H', Go c M H B M' H' B' → SlVs B' as vs → Q vs H'
def tDT (ds : List Sl) (M : Mp) (b : Bool) (M' : Mp) : TT := fun σ H Q => ∃ B, Wd c B M H ∧ Sls B ds σ ∧ ∀ B' H', Go c M H B M' H' B' → Q b H'
def tDO (ds : List Sl) (M : Mp) (o : Option Int) (M' : Mp) : TO := fun σ H Q => ∃ B, Wd c B M H ∧ Sls B ds σ ∧ ∀ B' H', Go c M H B M' H' B' → Q o H'
/-- an operation on two values, told by data -/
def OpD (r : R2) (d1 d2 d3 : Sl) : Prop := ∀ (B : Hp) (M : Mp) (H : Hp) (x y : V) (Q : VK), Wd c B M H → SlV B d1 x → SlV B d2 y → (∀ v B' H', Go c M H B M H' B' → SlV B' d3 v → Q v H') → r x y H Q
def UnD (r : V → Hp → VK → Prop) (d1 d3 : Sl) : Prop := ∀ (B : Hp) (M : Mp) (H : Hp) (x : V) (Q : VK), Wd c B M H → SlV B d1 x → (∀ v B' H', Go c M H B M H' B' → SlV B' d3 v → Q v H') → r x H Q
def CaD (r : List V → Hp → VK → Prop) (as : List Sl) (d : Sl) : Prop := ∀ (B : Hp) (M : Mp) (H : Hp) (xs : List V) (Q : VK), Wd c B M H → SlVs B as xs → (∀ v B' H', Go c M H B M H' B' → SlV B' d v → Q v H') → r xs H Q
def OpX (X : Cx) (f : Value → Value → Sem Value) (d1 d2 d3 : Sl) : Prop := ∃ r, OpR X f r ∧ OpD c r d1 d2 d3
def IxX (X : Cx) (d1 d2 d3 : Sl) : Prop := ∃ r, IxR X r ∧ OpD c r d1 d2 d3
def CallX (X : Cx) (f : Value) (as : List Sl) (d : Sl) : Prop := ∃ r, CallR X f r ∧ CaD c r as d
end
section
variable {X : Cx} {c : Cg} {ds : List Sl} {M M1 M2 M3 : Mp} {a b e : Expr} {d d1 d2 d3 : Sl} {pos : Pos}
theorem PE.to {t t' : TE} (h : PE X e t) (i : ∀ σ H Q, t' σ H Q → t σ H Q) : PE X e t' := ⟨fun pins s σ H Q I hw => h.run pins s σ H Q I (i σ H Q hw)⟩
theorem PT.to {t t' : TT} (h : PT X e t) (i : ∀ σ H Q, t' σ H Q → t σ H Q) : PT X e t' := ⟨fun pins s σ H Q I hw => h.run pins s σ H Q I (i σ H Q hw)⟩
theorem PW.to {t t' : TT} (h : PW X e t) (i : ∀ σ H Q, t' σ H Q → t σ H Q) : PW X e t' := ⟨fun wh pins s σ H Q I hw => h.run wh pins s σ H Q I (i σ H Q hw)⟩
theorem PE.ex {α : Type} {P : α → Prop} {t : α → TE} (h : ∀ a, P a → PE X e (t a)) : PE X e (fun σ H Q => ∃ a, P a ∧ t a σ H Q) := ⟨fun pins s σ H Q I ⟨a, p, hw⟩ => (h a p).run pins s σ H Q I hw⟩
theorem PT.ex {α : Type} {P : α → Prop} {t : α → TT} (h : ∀ a, P a → PT X e (t a)) : PT X e (fun σ H Q => ∃ a, P a ∧ t a σ H Q) := ⟨fun pins s σ H Q I ⟨a, p, hw⟩ => (h a p).run pins s σ H Q I hw⟩
theorem ed_cast (h : PE X e (tD c ds M d M1)) (q : d = d1) : PE X e (tD c ds M d1 M1) := q ▸ h
theorem et_cast {k k' : Bool} (h : PT X e (tDT c ds M k M1)) (q : k = k') : PT X e (tDT c ds M k' M1) := q ▸ h

/-! ### names and constants -/
theorem d_var (i : Nat) {x : Str} (he : ds[i]? = some d := by rfl) (n : d ≠ .no := by intro z; cases z) (hN : X.N[i]? = some x := by rfl) (hv : Vis X.env.scope x := by first | exact Or.inl rfl | exact Or.inr (Or.inl rfl) | exact Or.inr (Or.inr rfl)) (hd : (x == ("__debug__" : Str)) = false := by decide) (hcd : (x == ("__classdict__" : Str)) = false := by decide) : PE X (.Name x pos) (tD c ds M d M) :=
  PE.to (pe_var (i := i) hN hv hd hcd) fun σ H Q ⟨B, w, s, q⟩ => by
    obtain ⟨v, e, h⟩ := s.get he n
    exact ⟨v, e, q v B H (Go.refl w) h⟩
theorem d_ofC {v : V} (h : PE X e (tC v)) (r : ∀ B, SlV B d v) : PE X e (tD c ds M d M) := PE.to h fun σ H Q ⟨B, w, s, q⟩ => q v B H (Go.refl w) (r B)
theorem d_int {i : Int} {j : Nat} : PE X (.Constant (.int i) j pos) (tD c ds M (.dat (.int i)) M) := d_ofC pe_int fun B => .int i
theorem d_str {x : Str} {j : Nat} : PE X (.Constant (.str x) j pos) (tD c ds M (.dat (.str x)) M) := d_ofC pe_str fun B => .str x
theorem d_bl {k : Bool} {j : Nat} : PE X (.Constant (.bool k) j pos) (tD c ds M (.dat (.bool k)) M) := d_ofC pe_bl fun B => .bl k
theorem d_non {j : Nat} : PE X (.Constant .none j pos) (tD c ds M (.dat .none) M) := d_ofC pe_non fun B => .non
/-- a module's constant -/
theorem d_gint {x : Str} {i : Int} {t : Tok} (hm : X.mg x = some (.int i t)) (hg : Gl X x := by rfl) (hd : (x == ("__debug__" : Str)) = false := by decide) : PE X (.Name x pos) (tD c ds M (.dat (.int i)) M) := d_ofC (pe_glob (v := .int i) hg hm ⟨t, rfl⟩ hd) fun B => .int i
theorem d_gstr {x y : Str} {t : Tok} (hm : X.mg x = some (.str y t)) (hg : Gl X x := by rfl) (hd : (x == ("__debug__" : Str)) = false := by decide) : PE X (.Name x pos) (tD c ds M (.dat (.str y)) M) := d_ofC (pe_glob (v := .str y) hg hm ⟨t, rfl⟩ hd) fun B => .str y
theorem d_ty {x : Str} {T : String} (hm : X.mg x = none) (hv : bootBuiltins x = some (.type T) := by decide +kernel) (hg : Gl X x := by rfl) (hn : x ≠ "__name__" := by decide) (hd : (x == ("__debug__" : Str)) = false := by decide) : PE X (.Name x pos) (tD c ds M (.raw (.ty T)) M) := d_ofC (pe_bltn (v := .ty T) hg hm hv rfl hn hd) fun B => rfl

/-! ### two in a row -/
theorem seq2 {r : R2} {σ : L2.St} {H : Hp} {Q : VK} (o : OpD c r d1 d2 d3) (h : tD c ds M d3 M2 σ H Q) : tOp r (tD c ds M d1 M1) (tD c ds M1 d2 M2) σ H Q := by
  obtain ⟨B, w, s, q⟩ := h
  refine ⟨B, w, s, fun x B1 H1 g1 s1 => ⟨B1, g1.w, s.mono g1.b, fun y B2 H2 g2 s2 => ?_⟩⟩
  exact o B2 M2 H2 x y Q g2.w (s1.mono g2.b) s2 fun v B3 H3 g3 s3 => q v B3 H3 (g1.trans (g2.trans g3)) s3
theorem d_op {op : Operator} (ha : PE X a (tD c ds M d1 M1)) (hb : PE X b (tD c ds M1 d2 M2)) (o : OpX c X (binaryOp op) d1 d2 d3) : PE X (.BinOp a op b pos) (tD c ds M d3 M2) := by
  obtain ⟨r, h1, h2⟩ := o
  exact PE.to (pe_op h1 ha hb) fun σ H Q h => seq2 h2 h
theorem d_cmp {op : CmpOp} (ha : PE X a (tD c ds M d1 M1)) (hb : PE X b (tD c ds M1 d2 M2)) (o : OpX c X (compareOp op) d1 d2 d3) (hm : behindInMarks op b = false := by rfl) : PE X (.Compare a [op] [b] pos) (tD c ds M d3 M2) := by
  obtain ⟨r, h1, h2⟩ := o
  exact PE.to (pe_cmpR h1 ha hb hm) fun σ H Q h => seq2 h2 h
theorem t_cmp {op : CmpOp} {k : Bool} (ha : PE X a (tD c ds M d1 M1)) (hb : PE X b (tD c ds M1 d2 M2)) (o : OpX c X (compareOp op) d1 d2 (.dat (.bool k))) (hm : behindInMarks op b = false := by rfl) : PT X (.Compare a [op] [b] pos) (tDT c ds M k M2) := by
  obtain ⟨r, h1, h2⟩ := o
  refine PT.to (pt_cmpR h1 ha hb hm) fun σ H Q h => ?_
  obtain ⟨B, w, s, q⟩ := h
  refine seq2 h2 ⟨B, w, s, fun v B' H' g sv => ?_⟩
  cases sv
  exact ⟨k, rfl, q B' H' g⟩
theorem d_ix (ha : PE X a (tD c ds M d1 M1)) (hb : PE X b (tD c ds M1 d2 M2)) (o : IxX c X d1 d2 d3) (hs : PlainIx b := by exact fun _ _ => rfl) : PE X (.Subscript a b pos) (tD c ds M d3 M2) := by
  obtain ⟨r, h1, h2⟩ := o
  exact PE.to (pe_ix h1 ha hb hs) fun σ H Q h => seq2 h2 h
/-- a op b op' z, both asked; or the second alone if the first is True -/
theorem chainD {r r' : R2} {dz : Sl} {k k' : Bool} {σ : L2.St} {H : Hp} {Q : VK} (o : OpD c r d1 d2 (.dat (.bool k))) (o' : k = true → OpD c r' d2 dz (.dat (.bool k'))) (hM : k = false → M3 = M2)
    (h : tD c ds M (.dat (.bool (k && k'))) M3 σ H Q) : tChain r r' (tD c ds M d1 M1) (tD c ds M1 d2 M2) (tD c ds M2 dz M3) σ H Q := by
  obtain ⟨B, w, s, q⟩ := h
  refine ⟨B, w, s, fun x B1 H1 g1 s1 => ⟨B1, g1.w, s.mono g1.b, fun y B2 H2 g2 s2 => ?_⟩⟩
  refine o B2 M2 H2 x y _ g2.w (s1.mono g2.b) s2 fun v B3 H3 g3 s3 => ?_
  cases s3
  refine ⟨k, rfl, ?_⟩
  cases k with
  | true =>
    refine iteT ?_
    refine ⟨B3, g3.w, s.mono fun a o e => g3.b a o (g2.b a o (g1.b a o e)), fun z B4 H4 g4 s4 => ?_⟩
    exact o' rfl B4 M3 H4 y z Q g4.w (s2.mono fun a o e => g4.b a o (g3.b a o e)) s4 fun v B5 H5 g5 s5 => q v B5 H5 (g1.trans (g2.trans (g3.trans (g4.trans g5)))) s5
  | false =>
    refine iteF ?_
    have e := hM rfl
    subst e
    exact q _ B3 H3 (g1.trans (g2.trans g3)) (.bl false)
theorem d_chain {op op' : CmpOp} {z : Expr} {dz : Sl} {k k' : Bool} (ha : PE X a (tD c ds M d1 M1)) (hb : PE X b (tD c ds M1 d2 M2)) (hz : PE X z (tD c ds M2 dz M2)) (o : OpX c X (compareOp op) d1 d2 (.dat (.bool k))) (o' : OpX c X (compareOp op') d2 dz (.dat (.bool k')))
    (hm : lastMarks [op, op'] [b, z] = false := by with_unfolding_all rfl) : PE X (.Compare a [op, op'] [b, z] pos) (tD c ds M (.dat (.bool (k && k'))) M2) := by
  obtain ⟨r, h1, h2⟩ := o
  obtain ⟨r', h3, h4⟩ := o'
  exact PE.to (pe_chain h1 h3 ha hb hz hm) fun σ H Q h => chainD h2 (fun _ => h4) (fun _ => rfl) h
theorem t_chain {op op' : CmpOp} {z : Expr} {dz : Sl} {k k' : Bool} (ha : PE X a (tD c ds M d1 M1)) (hb : PE X b (tD c ds M1 d2 M2)) (hz : PE X z (tD c ds M2 dz M2)) (o : OpX c X (compareOp op) d1 d2 (.dat (.bool k))) (o' : OpX c X (compareOp op') d2 dz (.dat (.bool k')))
    (hm : lastMarks [op, op'] [b, z] = false := by with_unfolding_all rfl) : PT X (.Compare a [op, op'] [b, z] pos) (tDT c ds M (k && k') M2) := by
  obtain ⟨r, h1, h2⟩ := o
  obtain ⟨r', h3, h4⟩ := o'
  refine PT.to (pt_chain h1 h3 ha hb hz hm) fun σ H Q h => ?_
  obtain ⟨B, w, s, q⟩ := h
  refine chainD h2 (fun _ => h4) (fun _ => rfl) ⟨B, w, s, fun v B' H' g sv => ?_⟩
  cases sv
  exact ⟨_, rfl, q B' H' g⟩

/-! ### tests -/
/-- a call, a name .. whose value is True or False -/
theorem t_val {k : Bool} (h : PE X e (tD c ds M (.dat (.bool k)) M1)) (he : ∀ whole, isTrue e X.env whole = (do let v ← whole; standAt e.pos; holding [v] (truthy v)) := by intro _; rfl) : PT X e (tDT c ds M k M1) :=
  PT.to (pt_val h he) fun σ H Q ⟨B, w, s, q⟩ => ⟨B, w, s, fun v B' H' g sv => by cases sv; exact ⟨k, rfl, q B' H' g⟩⟩
/-- a value's truth -/
def trD : PyData → Bool
  | .none => false
  | .bool b => b
  | .int i => i != 0
  | .str y => (y.length : Int) != 0
  | .list xs => !xs.isEmpty
  | .tuple xs => !xs.isEmpty
  | .dict _ => false
def lenD : PyData → Nat
  | .str y => y.length
  | .list xs => xs.length
  | .tuple xs => xs.length
  | _ => 0
theorem isE_len {α β : Type} {xs : List α} {ys : List β} (h : xs.length = ys.length) : (!xs.isEmpty) = !ys.isEmpty := by
  cases xs <;> cases ys <;> first | rfl | (simp at h)
theorem truV_of {K : PySem.W.Frag} {B H : Hp} {M : Mp} {D : PyData} {v : V} (w : Wd c B M H) (h : Rp B v D) (hl : lenD D ≤ sizeLine) : TruV K v H (trD D) := by
  cases h with
  | non => rfl
  | bl b => rfl
  | int i => rfl
  | str x => exact ⟨hl, rfl⟩
  | @lst p xs es hb ha => exact .inl ⟨xs, .inl (.inl (w.b _ _ hb).2.2), isE_len (dpa_len ha).symm⟩
  | @tup p xs es hb ha => exact .inr (.inl ⟨xs, .inl (.inl (w.b _ _ hb).2.2), isE_len (dpa_len ha).symm⟩)
theorem t_truth {D : PyData} (h : PE X e (tD c ds M (.dat D) M1)) (he : ∀ whole, isTrue e X.env whole = (do let v ← whole; standAt e.pos; holding [v] (truthy v)) := by intro _; rfl) (hl : lenD D ≤ sizeLine) : PT X e (tDT c ds M (trD D) M1) :=
  PT.to (pt_truth h he) fun σ H Q ⟨B, w, s, q⟩ => ⟨B, w, s, fun v B' H' g sv => ⟨trD D, truV_of g.w sv hl, q B' H' g⟩⟩
theorem t_not {k : Bool} (h : PT X a (tDT c ds M k M1)) : PT X (.UnaryOp .Not a pos) (tDT c ds M (!k) M1) :=
  PT.to (pt_not h) fun σ H Q ⟨B, w, s, q⟩ => ⟨B, w, s, fun B' H' g => q B' H' g⟩
theorem w_and1 {k : Bool} (h : PT X a (tDT c ds M k M1)) : PW X (.BoolOp .And [a] pos) (tDT c ds M k M1) := pw_and1 h
theorem w_or1 {k : Bool} (h : PT X a (tDT c ds M k M1)) : PW X (.BoolOp .Or [a] pos) (tDT c ds M k M1) := pw_or1 h
/-- a code that is not run: any reading -/
theorem PW.never {t : TT} (h : ∀ σ H Q, t σ H Q → False) : PW X e t := ⟨fun _ _ _ _ _ _ _ hw => (h _ _ _ hw).elim⟩
theorem PE.never {t : TE} (h : ∀ σ H Q, t σ H Q → False) : PE X e t := ⟨fun _ _ _ _ _ _ hw => (h _ _ _ hw).elim⟩
theorem w_and {k k' : Bool} {rest : List Expr} (h : PT X a (tDT c ds M k M1)) (h' : k = true → PW X (.BoolOp .And (b :: rest) pos) (tDT c ds M1 k' M2)) (hM : k = false → M2 = M1 := by intro _; rfl) : PW X (.BoolOp .And (a :: b :: rest) pos) (tDT c ds M (k && k') M2) := by
  cases k with
  | true =>
    refine PW.to (pw_and h (h' rfl)) fun σ H Q ⟨B, w, s, q⟩ => ⟨B, w, s, fun B1 H1 g1 => ?_⟩
    refine iteT ?_
    exact ⟨B1, g1.w, s.mono g1.b, fun B2 H2 g2 => q B2 H2 (g1.trans g2)⟩
  | false =>
    have e := hM rfl
    subst e
    refine PW.to (pw_and h (PW.never (t := fun _ _ _ => False) fun _ _ _ z => z)) fun σ H Q ⟨B, w, s, q⟩ => ⟨B, w, s, fun B1 H1 g1 => ?_⟩
    refine iteF ?_
    exact q B1 H1 g1
theorem w_or {k k' : Bool} {rest : List Expr} (h : PT X a (tDT c ds M k M1)) (h' : k = false → PW X (.BoolOp .Or (b :: rest) pos) (tDT c ds M1 k' M2)) (hM : k = true → M2 = M1 := by intro _; rfl) : PW X (.BoolOp .Or (a :: b :: rest) pos) (tDT c ds M (k || k') M2) := by
  cases k with
  | false =>
    refine PW.to (pw_or h (h' rfl)) fun σ H Q ⟨B, w, s, q⟩ => ⟨B, w, s, fun B1 H1 g1 => ?_⟩
    refine iteF ?_
    exact ⟨B1, g1.w, s.mono g1.b, fun B2 H2 g2 => q B2 H2 (g1.trans g2)⟩
  | true =>
    have e := hM rfl
    subst e
    refine PW.to (pw_or h (PW.never (t := fun _ _ _ => False) fun _ _ _ z => z)) fun σ H Q ⟨B, w, s, q⟩ => ⟨B, w, s, fun B1 H1 g1 => ?_⟩
    refine iteT ?_
    exact q B1 H1 g1
theorem t_w {k : Bool} (h : PW X e (tDT c ds M k M1)) : PT X e (tDT c ds M k M1) := h.pt
/-! ### and, or, not as values (True, False) -/
theorem d_one {op : BoolOp} (h : PE X a (tD c ds M d M1)) : PE X (.BoolOp op [a] pos) (tD c ds M d M1) := pe_one h
theorem d_and {k k' : Bool} {rest : List Expr} (h : PE X a (tD c ds M (.dat (.bool k)) M1)) (h' : k = true → PE X (.BoolOp .And (b :: rest) pos) (tD c ds M1 (.dat (.bool k')) M2)) (hM : k = false → M2 = M1 := by intro _; rfl) :
    PE X (.BoolOp .And (a :: b :: rest) pos) (tD c ds M (.dat (.bool (k && k'))) M2) := by
  cases k with
  | true =>
    refine PE.to (pe_and h (h' rfl)) fun σ H Q ⟨B, w, s, q⟩ => ⟨B, w, s, fun v B1 H1 g1 sv => ?_⟩
    cases sv
    refine ⟨true, rfl, ?_⟩
    refine iteT ?_
    exact ⟨B1, g1.w, s.mono g1.b, fun v B2 H2 g2 s2 => q v B2 H2 (g1.trans g2) s2⟩
  | false =>
    have e := hM rfl
    subst e
    refine PE.to (pe_and h (PE.never (t := fun _ _ _ => False) fun _ _ _ z => z)) fun σ H Q ⟨B, w, s, q⟩ => ⟨B, w, s, fun v B1 H1 g1 sv => ?_⟩
    cases sv
    refine ⟨false, rfl, ?_⟩
    refine iteF ?_
    exact q _ B1 H1 g1 (.bl false)
theorem d_or {k k' : Bool} {rest : List Expr} (h : PE X a (tD c ds M (.dat (.bool k)) M1)) (h' : k = false → PE X (.BoolOp .Or (b :: rest) pos) (tD c ds M1 (.dat (.bool k')) M2)) (hM : k = true → M2 = M1 := by intro _; rfl) :
    PE X (.BoolOp .Or (a :: b :: rest) pos) (tD c ds M (.dat (.bool (k || k'))) M2) := by
  cases k with
  | false =>
    refine PE.to (pe_or h (h' rfl)) fun σ H Q ⟨B, w, s, q⟩ => ⟨B, w, s, fun v B1 H1 g1 sv => ?_⟩
    cases sv
    refine ⟨false, rfl, ?_⟩
    refine iteF ?_
    exact ⟨B1, g1.w, s.mono g1.b, fun v B2 H2 g2 s2 => q v B2 H2 (g1.trans g2) s2⟩
  | true =>
    have e := hM rfl
    subst e
    refine PE.to (pe_or h (PE.never (t := fun _ _ _ => False) fun _ _ _ z => z)) fun σ H Q ⟨B, w, s, q⟩ => ⟨B, w, s, fun v B1 H1 g1 sv => ?_⟩
    cases sv
    refine ⟨true, rfl, ?_⟩
    refine iteT ?_
    exact q _ B1 H1 g1 (.bl true)
theorem d_not {k : Bool} (h : PE X a (tD c ds M (.dat (.bool k)) M1)) : PE X (.UnaryOp .Not a pos) (tD c ds M (.dat (.bool (!k))) M1) :=
  PE.to (pe_not h) fun σ H Q ⟨B, w, s, q⟩ => ⟨B, w, s, fun v B' H' g sv => by cases sv; exact ⟨k, rfl, q _ B' H' g (.bl _)⟩⟩
/-- not x by truth -/
theorem d_notT {D : PyData} (h : PE X a (tD c ds M (.dat D) M1)) (hl : lenD D ≤ sizeLine) : PE X (.UnaryOp .Not a pos) (tD c ds M (.dat (.bool (!trD D))) M1) :=
  PE.to (pe_notT h) fun σ H Q ⟨B, w, s, q⟩ => ⟨B, w, s, fun v B' H' g sv => ⟨trD D, truV_of g.w sv hl, q _ B' H' g (.bl _)⟩⟩
/-! ### a if t else b -/
theorem d_if {cnd : Expr} {k : Bool} (h : PT X cnd (tDT c ds M k M1)) (h1 : k = true → PE X a (tD c ds M1 d M2)) (h2 : k = false → PE X b (tD c ds M1 d M2)) : PE X (.IfExp cnd a b pos) (tD c ds M d M2) := by
  cases k with
  | true =>
    refine PE.to (pe_ifExp h (h1 rfl) (PE.never (t := fun _ _ _ => False) fun _ _ _ z => z)) fun σ H Q ⟨B, w, s, q⟩ => ⟨B, w, s, fun B1 H1 g1 => ?_⟩
    refine iteT ?_
    exact ⟨B1, g1.w, s.mono g1.b, fun v B2 H2 g2 s2 => q v B2 H2 (g1.trans g2) s2⟩
  | false =>
    refine PE.to (pe_ifExp h (PE.never (t := fun _ _ _ => False) fun _ _ _ z => z) (h2 rfl)) fun σ H Q ⟨B, w, s, q⟩ => ⟨B, w, s, fun B1 H1 g1 => ?_⟩
    refine iteF ?_
    exact ⟨B1, g1.w, s.mono g1.b, fun v B2 H2 g2 s2 => q v B2 H2 (g1.trans g2) s2⟩
/-! ### lists of arguments, displays, slices -/
theorem ds_nil : PA X [] (tDs c ds M [] M) := ⟨fun pos pins s σ H Q I ⟨B, w, sl, q⟩ => pa_nil.run pos pins s σ H Q I (q [] B H (Go.refl w) .nil)⟩
theorem PA.to {es : List Expr} {t t' : TA} (h : PA X es t) (i : ∀ σ H Q, t' σ H Q → t σ H Q) : PA X es t' := ⟨fun pos pins s σ H Q I hw => h.run pos pins s σ H Q I (i σ H Q hw)⟩
theorem ds_cons {es : List Expr} {as : List Sl} (h : PE X e (tD c ds M d M1)) (hr : PA X es (tDs c ds M1 as M2)) (hs : starEach (e :: es) X.env = (false, eval e X.env) :: starEach es X.env := by rfl) : PA X (e :: es) (tDs c ds M (d :: as) M2) :=
  PA.to (pa_cons h hr hs) fun σ H Q ⟨B, w, s, q⟩ => ⟨B, w, s, fun v B1 H1 g1 s1 => ⟨B1, g1.w, s.mono g1.b, fun vs B2 H2 g2 s2 => q (v :: vs) B2 H2 (g1.trans g2) (.cons (s1.mono g2.b) s2)⟩⟩
theorem rpa_of : ∀ {B : Hp} {es : List PyData} {vs : List V}, SlVs B (es.map Sl.dat) vs → RpA B vs es
  | _, [], _, h => by cases h; exact .nil
  | _, d :: es, _, h => by
    cases h with
    | cons h1 h2 => exact .cons h1 (rpa_of h2)
theorem nt_lst {xs : List V} : NT (.lst xs) := fun _ z => by cases z
theorem nt_tup {xs : List V} : NT (.tup xs) := fun _ z => by cases z
theorem new_lst {B H : Hp} {M : Mp} {xs : List V} {es : List PyData} {p : Addr} (w : Wd c B M H) (h : RpA B xs es) (hp : H p = none) : Go c M H B M (upd H p (.lst xs)) (upd B p (.lst xs)) ∧ SlV (upd B p (.lst xs)) (.dat (.list es)) (.ref p) := by
  have g := Go.new w hp (nt_lst (xs := xs))
  exact ⟨g, .lst upd_same (dpa_mono g.b _ _ h)⟩
theorem new_tup {B H : Hp} {M : Mp} {xs : List V} {es : List PyData} {p : Addr} (w : Wd c B M H) (h : RpA B xs es) (hp : H p = none) : Go c M H B M (upd H p (.tup xs)) (upd B p (.tup xs)) ∧ SlV (upd B p (.tup xs)) (.dat (.tuple es)) (.ref p) := by
  have g := Go.new w hp (nt_tup (xs := xs))
  exact ⟨g, .tup upd_same (dpa_mono g.b _ _ h)⟩
theorem sz_ok {n : Nat} (h : n ≤ 100000) : n ≤ sizeLine := Nat.le_trans h (by decide)
/-- data of a list of slots -/
inductive Dats : List Sl → List PyData → Prop
  | nil : Dats [] []
  | cons {d : PyData} {as : List Sl} {es : List PyData} (h : Dats as es) : Dats (.dat d :: as) (d :: es)
theorem rpa_dats : ∀ {B : Hp} {as : List Sl} {es : List PyData} {vs : List V}, Dats as es → SlVs B as vs → RpA B vs es
  | _, _, _, _, .nil, h => by cases h; exact .nil
  | _, _, _, _, .cons t, h => by
    cases h with
    | cons h1 h2 => exact .cons h1 (rpa_dats t h2)
theorem Dats.len {as : List Sl} {es : List PyData} (h : Dats as es) : as.length = es.length := by
  induction h with
  | nil => rfl
  | cons _ ih => rw [List.length_cons, List.length_cons, ih]
theorem d_lst {es : List Expr} {as : List Sl} {dd : List PyData} (h : PA X es (tDs c ds M as M1)) (hd : Dats as dd := by repeat (first | exact Dats.nil | apply Dats.cons)) (hl : dd.length ≤ 100000 := by exact Nat.le_of_ble_eq_true rfl) : PE X (.List es pos) (tD c ds M (.dat (.list dd)) M1) :=
  PE.to (pe_lst h) fun σ H Q ⟨B, w, s, q⟩ => ⟨B, w, s, fun vs B1 H1 g1 s1 => ⟨by rw [← s1.len, hd.len]; exact sz_ok hl, fun p hp => by
    obtain ⟨g, r⟩ := new_lst g1.w (rpa_dats hd s1) hp
    exact q _ _ _ (g1.trans g) r⟩⟩
theorem d_tup {es : List Expr} {as : List Sl} {dd : List PyData} {k : Nat} (h : PA X es (tDs c ds M as M1)) (hd : Dats as dd := by repeat (first | exact Dats.nil | apply Dats.cons)) (hl : dd.length ≤ 100000 := by exact Nat.le_of_ble_eq_true rfl) : PE X (.Tuple es k pos) (tD c ds M (.dat (.tuple dd)) M1) :=
  PE.to (pe_tup h) fun σ H Q ⟨B, w, s, q⟩ => ⟨B, w, s, fun vs B1 H1 g1 s1 => ⟨by rw [← s1.len, hd.len]; exact sz_ok hl, fun p hp => by
    obtain ⟨g, r⟩ := new_tup g1.w (rpa_dats hd s1) hp
    exact q _ _ _ (g1.trans g) r⟩⟩
theorem PO.to {o : Option Expr} {t t' : TO} (h : PO X o t) (i : ∀ σ H Q, t' σ H Q → t σ H Q) : PO X o t' := ⟨fun pins s σ H Q I hw => h.run pins s σ H Q I (i σ H Q hw)⟩
theorem o_none : PO X none (tDO c ds M none M) := PO.to po_none fun σ H Q ⟨B, w, s, q⟩ => q B H (Go.refl w)
theorem o_some {i : Int} (h : PE X e (tD c ds M (.dat (.int i)) M1)) : PO X (some e) (tDO c ds M (some i) M1) :=
  PO.to (po_some h) fun σ H Q ⟨B, w, s, q⟩ => ⟨B, w, s, fun v B1 H1 g sv => by cases sv; exact ⟨i, rfl, q B1 H1 g⟩⟩
def SlX (c : Cg) (X : Cx) (d1 : Sl) (lo hi : Option Int) (d2 : Sl) : Prop := ∃ r, SlR X r ∧ ∀ (B : Hp) (M : Mp) (H : Hp) (x : V) (Q : VK), Wd c B M H → SlV B d1 x → (∀ v B' H', Go c M H B M H' B' → SlV B' d2 v → Q v H') → r x lo hi H Q
theorem d_sl {lo hi : Option Expr} {l u : Option Int} {p2 : Pos} (he : PE X e (tD c ds M d1 M1)) (hl : PO X lo (tDO c ds M1 l M1)) (hu : PO X hi (tDO c ds M1 u M1)) (o : SlX c X d1 l u d2) : PE X (.Subscript e (.Slice lo hi none p2) pos) (tD c ds M d2 M1) := by
  obtain ⟨r, h1, h2⟩ := o
  refine PE.to (pe_slice h1 he hl hu) fun σ H Q ⟨B, w, s, q⟩ => ⟨B, w, s, fun v B1 H1 g1 s1 => ⟨B1, g1.w, s.mono g1.b, fun B2 H2 g2 => ⟨B2, g2.w, (s.mono g1.b).mono g2.b, fun B3 H3 g3 => ?_⟩⟩⟩
  exact h2 B3 M1 H3 v Q g3.w ((s1.mono g2.b).mono g3.b) fun v B4 H4 g4 s4 => q v B4 H4 (g1.trans (g2.trans (g3.trans g4))) s4
def cutD (xs : List PyData) (lo hi : Option Int) : List PyData := (xs.drop (HT.sIx xs.length 0 lo)).take (HT.sIx xs.length xs.length hi - HT.sIx xs.length 0 lo)
theorem sx_str {z : Str} {l u : Option Int} (hz : z.length ≤ 100000) : SlX c X (.dat (.str z)) l u (.dat (.str (cutS z l u))) :=
  ⟨_, sl_str, fun B M H x Q w sv q => by cases sv; exact ⟨z, rfl, sz_ok hz, q _ B H (Go.refl w) (.str _)⟩⟩
theorem sx_list {xs : List PyData} {l u : Option Int} (hK : X.K = c.K := by rfl) : SlX c X (.dat (.list xs)) l u (.dat (.list (cutD xs l u))) :=
  ⟨_, sl_list, fun B M H x Q w sv q => by
    cases sv with
    | @lst p vs _ hb ha =>
      refine ⟨p, vs, rfl, .inl (.inl (w.b _ _ hb).2.2), fun p' hp => ?_⟩
      obtain ⟨g, r⟩ := new_lst w (dpa_cut (lo := l) (hi := u) ha) hp
      exact q _ _ _ g r⟩
theorem sx_tup {xs : List PyData} {l u : Option Int} (hK : X.K = c.K := by rfl) : SlX c X (.dat (.tuple xs)) l u (.dat (.tuple (cutD xs l u))) :=
  ⟨_, sl_tupA, fun B M H x Q w sv q => by
    cases sv with
    | @tup p vs _ hb ha =>
      refine ⟨p, vs, rfl, .inl (.inl (w.b _ _ hb).2.2), fun h => ?_, fun _ p' hp => ?_⟩
      · have e : cutD xs l u = xs := by
          unfold cutD
          rw [dpa_len ha] at h
          rw [h.1, h.2]
          simp
        exact q _ B H (Go.refl w) (show Rp B (.ref p) (.tuple (cutD xs l u)) by rw [e]; exact .tup hb ha)
      · obtain ⟨g, r⟩ := new_tup w (dpa_cut (lo := l) (hi := u) ha) hp
        exact q _ _ _ g r⟩
/-! ### built-ins by name -/
theorem d_blt {x : Str} {p : Pos} {id : String} {es : List Expr} {as : List Sl} (ha : PA X (e :: es) (tDs c ds M as M1)) (o : CallX c X (.builtin id) as d) (hm : X.mg x = none) (hv : bootBuiltins x = some (.builtin id) := by decide +kernel) (hg : Gl X x := by rfl) (hn : x ≠ "__name__" := by decide) (hdb : (x == ("__debug__" : Str)) = false := by decide)
    (he : starEach (e :: es) X.env = (false, eval e X.env) :: starEach es X.env := by rfl) (hpl : (backTo pos (starEach es X.env)).any (·.1) = false := by rfl) : PE X (.Call (.Name x p) (e :: es) [] pos) (tD c ds M d M1) := by
  obtain ⟨r, h1, h2⟩ := o
  exact PE.to (pe_callB h1 hg hm hv ha hn hdb he hpl) fun σ H Q ⟨B, w, s, q⟩ => ⟨B, w, s, fun vs B1 H1 g1 s1 => h2 B1 M1 H1 vs Q g1.w s1 fun v B2 H2 g2 s2 => q v B2 H2 (g1.trans g2) s2⟩
theorem d_typ {x : Str} {p : Pos} {T : String} {es : List Expr} {as : List Sl} (ha : PA X (e :: es) (tDs c ds M as M1)) (o : CallX c X (.type T) as d) (hm : X.mg x = none) (hv : bootBuiltins x = some (.type T) := by decide +kernel) (hg : Gl X x := by rfl) (hn : x ≠ "__name__" := by decide) (hdb : (x == ("__debug__" : Str)) = false := by decide)
    (he : starEach (e :: es) X.env = (false, eval e X.env) :: starEach es X.env := by rfl) (hpl : (backTo pos (starEach es X.env)).any (·.1) = false := by rfl) : PE X (.Call (.Name x p) (e :: es) [] pos) (tD c ds M d M1) := by
  obtain ⟨r, h1, h2⟩ := o
  exact PE.to (pe_callTy h1 hg hm hv ha hn hdb he hpl) fun σ H Q ⟨B, w, s, q⟩ => ⟨B, w, s, fun vs B1 H1 g1 s1 => h2 B1 M1 H1 vs Q g1.w s1 fun v B2 H2 g2 s2 => q v B2 H2 (g1.trans g2) s2⟩
end
end Zd
end
/-! ## Z2 -/
section
set_option Elab.async false
set_option linter.all false
set_option maxRecDepth 100000
set_option maxHeartbeats 4000000
/-! Operators, built-ins and methods, by data. -/
namespace Zd
open PySem PySem.Spec PyProof.Rows L2
section
variable {X : Cx} {c : Cg} {ds : List Sl} {M M1 M2 M3 : Mp} {a b e : Expr} {d d1 d2 d3 : Sl} {pos : Pos}
abbrev I (i : Int) : Sl := .dat (.int i)
abbrev S (x : Str) : Sl := .dat (.str x)
abbrev Bo (k : Bool) : Sl := .dat (.bool k)

/-! ### ints -/
theorem opd_I0 {g : Int → Int → V} {i j : Int} {d : Sl} (h : ∀ B, SlV B d (g i j)) : OpD c (rI0 g) (I i) (I j) d := fun B M H x y Q w s1 s2 q => by
  cases s1
  cases s2
  exact ⟨i, j, rfl, rfl, q _ B H (Go.refl w) (h B)⟩
theorem opd_I {C : Int → Int → Prop} {g : Int → Int → V} {i j : Int} {d : Sl} (hc : C i j) (h : ∀ B, SlV B d (g i j)) : OpD c (rI C g) (I i) (I j) d := fun B M H x y Q w s1 s2 q => by
  cases s1
  cases s2
  exact ⟨i, j, rfl, rfl, hc, q _ B H (Go.refl w) (h B)⟩
theorem x_add {i j : Int} : OpX c X (binaryOp .Add) (I i) (I j) (I (i + j)) := ⟨_, op_add, opd_I0 fun B => .int _⟩
theorem x_sub {i j : Int} : OpX c X (binaryOp .Sub) (I i) (I j) (I (i - j)) := ⟨_, op_sub, opd_I0 fun B => .int _⟩
theorem x_mul {i j : Int} (h : CMul i j) : OpX c X (binaryOp .Mult) (I i) (I j) (I (i * j)) := ⟨_, op_mul, opd_I h fun B => .int _⟩
theorem x_div {i j : Int} (h : CDiv i j) : OpX c X (binaryOp .FloorDiv) (I i) (I j) (I (i / j)) := ⟨_, op_fdiv, opd_I h fun B => .int _⟩
theorem x_mod {i j : Int} (h : 0 < j) : OpX c X (binaryOp .Mod) (I i) (I j) (I (i % j)) := ⟨_, op_mod, opd_I h fun B => .int _⟩
theorem x_pow {i j : Int} (h : CPow i j) : OpX c X (binaryOp .Pow) (I i) (I j) (I (i ^ j.toNat)) := ⟨_, op_pow, opd_I h fun B => .int _⟩
theorem x_lt {i j : Int} : OpX c X (compareOp .Lt) (I i) (I j) (Bo (decide (i < j))) := ⟨_, op_lt, opd_I0 fun B => .bl _⟩
theorem x_le {i j : Int} : OpX c X (compareOp .LtE) (I i) (I j) (Bo (decide (i ≤ j))) := ⟨_, op_le, opd_I0 fun B => .bl _⟩
theorem x_gt {i j : Int} : OpX c X (compareOp .Gt) (I i) (I j) (Bo (decide (j < i))) := ⟨_, op_gt, opd_I0 fun B => .bl _⟩
theorem x_ge {i j : Int} : OpX c X (compareOp .GtE) (I i) (I j) (Bo (decide (j ≤ i))) := ⟨_, op_ge, opd_I0 fun B => .bl _⟩
/-! ### == of flat values -/
theorem x_eqI {i j : Int} : OpX c X (compareOp .Eq) (I i) (I j) (Bo (decide (i = j))) := ⟨_, op_eq, fun B M H x y Q w s1 s2 q => by
  cases s1
  cases s2
  exact ⟨rfl, by rw [show decide (V.int i = V.int j) = decide (i = j) by simp]; exact q _ B H (Go.refl w) (.bl _)⟩⟩
theorem x_neI {i j : Int} : OpX c X (compareOp .NotEq) (I i) (I j) (Bo (!decide (i = j))) := ⟨_, op_ne, fun B M H x y Q w s1 s2 q => by
  cases s1
  cases s2
  exact ⟨rfl, by rw [show decide (V.int i = V.int j) = decide (i = j) by simp]; exact q _ B H (Go.refl w) (.bl _)⟩⟩
theorem x_eqS {i j : Str} : OpX c X (compareOp .Eq) (S i) (S j) (Bo (decide (i = j))) := ⟨_, op_eq, fun B M H x y Q w s1 s2 q => by
  cases s1
  cases s2
  exact ⟨rfl, by rw [show decide (V.str i = V.str j) = decide (i = j) by simp]; exact q _ B H (Go.refl w) (.bl _)⟩⟩
theorem x_neS {i j : Str} : OpX c X (compareOp .NotEq) (S i) (S j) (Bo (!decide (i = j))) := ⟨_, op_ne, fun B M H x y Q w s1 s2 q => by
  cases s1
  cases s2
  exact ⟨rfl, by rw [show decide (V.str i = V.str j) = decide (i = j) by simp]; exact q _ B H (Go.refl w) (.bl _)⟩⟩
theorem x_eqB {i j : Bool} : OpX c X (compareOp .Eq) (Bo i) (Bo j) (Bo (decide (i = j))) := ⟨_, op_eq, fun B M H x y Q w s1 s2 q => by
  cases s1
  cases s2
  exact ⟨rfl, by rw [show decide (V.bl i = V.bl j) = decide (i = j) by simp]; exact q _ B H (Go.refl w) (.bl _)⟩⟩
theorem x_neB {i j : Bool} : OpX c X (compareOp .NotEq) (Bo i) (Bo j) (Bo (!decide (i = j))) := ⟨_, op_ne, fun B M H x y Q w s1 s2 q => by
  cases s1
  cases s2
  exact ⟨rfl, by rw [show decide (V.bl i = V.bl j) = decide (i = j) by simp]; exact q _ B H (Go.refl w) (.bl _)⟩⟩
theorem x_eqN : OpX c X (compareOp .Eq) (.dat .none) (.dat .none) (Bo true) := ⟨_, op_eq, fun B M H x y Q w s1 s2 q => by
  cases s1
  cases s2
  exact ⟨rfl, q _ B H (Go.refl w) (.bl _)⟩⟩
/-- data of any depth -/
theorem x_eqD {D E : PyData} {k : Bool} (hu : X.A.units + 64 < cLine) (s1 : SeqAt.shaped D = true) (s2 : SeqAt.shaped E = true) (hk : PyData.eqv D E = k) (hK : X.K = c.K := by rfl) : OpX c X (compareOp .Eq) (.dat D) (.dat E) (Bo k) :=
  ⟨_, op_eqD hu, fun B M H x y Q w r1 r2 q => ⟨D, E, rp_dp (fun a o e => (w.b a o e).2.2) D x r1, rp_dp (fun a o e => (w.b a o e).2.2) E y r2, s1, s2, by rw [hk]; exact q _ B H (Go.refl w) (.bl _)⟩⟩
theorem x_neD {D E : PyData} {k : Bool} (hu : X.A.units + 64 < cLine) (s1 : SeqAt.shaped D = true) (s2 : SeqAt.shaped E = true) (hk : (!PyData.eqv D E) = k) (hK : X.K = c.K := by rfl) : OpX c X (compareOp .NotEq) (.dat D) (.dat E) (Bo k) :=
  ⟨_, op_neD hu, fun B M H x y Q w r1 r2 q => ⟨D, E, rp_dp (fun a o e => (w.b a o e).2.2) D x r1, rp_dp (fun a o e => (w.b a o e).2.2) E y r2, s1, s2, by rw [hk]; exact q _ B H (Go.refl w) (.bl _)⟩⟩
/-! ### is None -/
def isNon : PyData → Bool
  | .none => true
  | _ => false
theorem rp_isNon {B : Hp} {D : PyData} {x : V} (h : Rp B x D) : decide (x = .non) = isNon D := by
  cases h <;> simp [isNon]
theorem x_isN {D : PyData} : OpX c X (compareOp .Is) (.dat D) (.dat .none) (Bo (isNon D)) := ⟨_, op_isN, fun B M H x y Q w s1 s2 q => by
  cases s2
  exact ⟨rfl, by rw [rp_isNon s1]; exact q _ B H (Go.refl w) (.bl _)⟩⟩
theorem x_notN {D : PyData} : OpX c X (compareOp .IsNot) (.dat D) (.dat .none) (Bo (!isNon D)) := ⟨_, op_notN, fun B M H x y Q w s1 s2 q => by
  cases s2
  exact ⟨rfl, by rw [rp_isNon s1]; exact q _ B H (Go.refl w) (.bl _)⟩⟩
/-! ### texts -/
theorem x_addS {i j : Str} (h : i.length + j.length ≤ 100000) : OpX c X (binaryOp .Add) (S i) (S j) (S (i ++ j)) := ⟨_, op_add_str, fun B M H x y Q w s1 s2 q => by
  cases s1
  cases s2
  exact ⟨i, j, rfl, rfl, sz_ok h, q _ B H (Go.refl w) (.str _)⟩⟩
theorem x_inS {ch : Nat} {z : Str} : OpX c X (compareOp .In) (S ⟨#[ch]⟩) (S z) (Bo (decide (ch ∈ z.cps.toList))) := ⟨_, op_in_sign, fun B M H x y Q w s1 s2 q => by
  cases s1
  cases s2
  exact ⟨ch, z, rfl, rfl, q _ B H (Go.refl w) (.bl _)⟩⟩
theorem x_niS {ch : Nat} {z : Str} : OpX c X (compareOp .NotIn) (S ⟨#[ch]⟩) (S z) (Bo (!decide (ch ∈ z.cps.toList))) := ⟨_, op_notIn_sign, fun B M H x y Q w s1 s2 q => by
  cases s1
  cases s2
  exact ⟨ch, z, rfl, rfl, q _ B H (Go.refl w) (.bl _)⟩⟩
/-! ### in a list, in a tuple of flat things -/
def flD : PyData → Bool
  | .none => true
  | .bool _ => true
  | .int _ => true
  | .str _ => true
  | _ => false
def inD (x : PyData) (es : List PyData) : Bool := es.any fun y => PyData.eqv y x
theorem rp_fl {B : Hp} {D : PyData} {x : V} (h : Rp B x D) (f : flD D = true) : flatV x = true := by
  cases h <;> first | rfl | (cases f)
theorem rpa_fl {B : Hp} : ∀ {es : List PyData} {xs : List V}, RpA B xs es → es.all flD = true → xs.all flatV = true
  | [], _, h, _ => by cases h; rfl
  | d :: es, _, h, f => by
    cases h with
    | cons h1 h2 =>
      rw [List.all_cons, Bool.and_eq_true] at f ⊢
      exact ⟨rp_fl h1 f.1, rpa_fl h2 f.2⟩
theorem rp_eqv {B : Hp} {D E : PyData} {x y : V} (h : Rp B x D) (g : Rp B y E) (f : flD D = true) (f' : flD E = true) : eqV x y = PyData.eqv D E := by
  cases h <;> cases g <;> first | rfl | (cases f; done) | (cases f'; done)
theorem rpa_in {B : Hp} {D : PyData} {x : V} (h : Rp B x D) (f : flD D = true) : ∀ {es : List PyData} {xs : List V}, RpA B xs es → es.all flD = true → inV x xs = inD D es
  | [], _, h, _ => by cases h; rfl
  | d :: es, _, g, f' => by
    cases g with
    | cons h1 h2 =>
      rw [List.all_cons, Bool.and_eq_true] at f'
      have ih := rpa_in h f h2 f'.2
      unfold inV inD at ih ⊢
      rw [List.any_cons, List.any_cons, rp_eqv h1 h f'.1 f, ih]
theorem x_inT {D : PyData} {es : List PyData} (f : flD D = true := by rfl) (f' : es.all flD = true := by rfl) (hK : X.K = c.K := by rfl) : OpX c X (compareOp .In) (.dat D) (.dat (.tuple es)) (Bo (inD D es)) := ⟨_, op_in_seq, fun B M H x y Q w s1 s2 q => by
  cases s2 with
  | @tup p xs _ hb ha =>
    refine ⟨p, xs, rfl, .inr (.inl (.inl (w.b _ _ hb).2.2)), rp_fl s1 f, rpa_fl ha f', ?_⟩
    rw [if_neg Bool.false_ne_true, rpa_in s1 f ha f']
    exact q _ B H (Go.refl w) (.bl _)⟩
theorem x_niT {D : PyData} {es : List PyData} (f : flD D = true := by rfl) (f' : es.all flD = true := by rfl) (hK : X.K = c.K := by rfl) : OpX c X (compareOp .NotIn) (.dat D) (.dat (.tuple es)) (Bo (!inD D es)) := ⟨_, op_notIn_seq, fun B M H x y Q w s1 s2 q => by
  cases s2 with
  | @tup p xs _ hb ha =>
    refine ⟨p, xs, rfl, .inr (.inl (.inl (w.b _ _ hb).2.2)), rp_fl s1 f, rpa_fl ha f', ?_⟩
    rw [if_pos rfl, rpa_in s1 f ha f']
    exact q _ B H (Go.refl w) (.bl _)⟩
theorem x_inL {D : PyData} {es : List PyData} (f : flD D = true := by rfl) (f' : es.all flD = true := by rfl) (hK : X.K = c.K := by rfl) : OpX c X (compareOp .In) (.dat D) (.dat (.list es)) (Bo (inD D es)) := ⟨_, op_in_seq, fun B M H x y Q w s1 s2 q => by
  cases s2 with
  | @lst p xs _ hb ha =>
    refine ⟨p, xs, rfl, .inl (.inl (.inl (w.b _ _ hb).2.2)), rp_fl s1 f, rpa_fl ha f', ?_⟩
    rw [if_neg Bool.false_ne_true, rpa_in s1 f ha f']
    exact q _ B H (Go.refl w) (.bl _)⟩
/-! ### lists, tuples -/
theorem x_catL {xs ys : List PyData} (h : xs.length + ys.length ≤ 100000) : OpX c X (binaryOp .Add) (.dat (.list xs)) (.dat (.list ys)) (.dat (.list (xs ++ ys))) := ⟨_, op_cat, fun B M H x y Q w s1 s2 q => by
  cases s1 with
  | @lst p us _ hb ha =>
    cases s2 with
    | @lst p' vs _ hb' ha' =>
      refine ⟨p, p', us, vs, rfl, rfl, (w.b _ _ hb).2.2, (w.b _ _ hb').2.2, by rw [dpa_len ha, dpa_len ha']; exact sz_ok h, fun r hr => ?_⟩
      obtain ⟨g, s⟩ := new_lst w (dpa_app ha ha') hr
      exact q _ _ _ g s⟩
theorem x_catT {xs ys : List PyData} (h : xs.length + ys.length ≤ 100000) (hK : X.K = c.K := by rfl) : OpX c X (binaryOp .Add) (.dat (.tuple xs)) (.dat (.tuple ys)) (.dat (.tuple (xs ++ ys))) := ⟨_, op_catA, fun B M H x y Q w s1 s2 q => by
  cases s1 with
  | @tup p us _ hb ha =>
    cases s2 with
    | @tup p' vs _ hb' ha' =>
      have l1 := dpa_len ha
      have l2 := dpa_len ha'
      refine ⟨p, p', us, vs, rfl, rfl, .inl (.inl (w.b _ _ hb).2.2), .inl (.inl (w.b _ _ hb').2.2), by rw [l1, l2]; exact sz_ok h, fun e => ?_, fun n e => ?_, fun n n' r hr => ?_⟩
      · have z : xs = [] := by rw [e] at l1; exact List.eq_nil_of_length_eq_zero l1.symm
        refine q _ B H (Go.refl w) (show Rp B (.ref p') (.tuple (xs ++ ys)) from ?_)
        rw [z]
        exact .tup hb' ha'
      · have z : ys = [] := by rw [e] at l2; exact List.eq_nil_of_length_eq_zero l2.symm
        refine q _ B H (Go.refl w) (show Rp B (.ref p) (.tuple (xs ++ ys)) from ?_)
        rw [z, List.append_nil]
        exact .tup hb ha
      · obtain ⟨g, s⟩ := new_tup w (dpa_app ha ha') hr
        exact q _ _ _ g s⟩
theorem iop_catA_of : True := trivial
theorem dpa_rep {B : Hp} {xs : List V} {es : List PyData} (h : RpA B xs es) : ∀ n : Nat, RpA B (List.replicate n xs).flatten (List.replicate n es).flatten
  | 0 => .nil
  | n + 1 => by
    rw [List.replicate_succ, List.flatten_cons, List.replicate_succ, List.flatten_cons]
    exact dpa_app h (dpa_rep h n)
theorem x_repL {xs : List PyData} {k : Int} (h : 0 ≤ k ∧ k ≤ 1000) (hl : xs.length * k.toNat ≤ 100000) : OpX c X (binaryOp .Mult) (.dat (.list xs)) (I k) (.dat (.list (List.replicate k.toNat xs).flatten)) := ⟨_, op_rep, fun B M H x y Q w s1 s2 q => by
  cases s1 with
  | @lst p us _ hb ha =>
    cases s2
    refine ⟨p, k, us, rfl, rfl, (w.b _ _ hb).2.2, by omega, by omega, by rw [dpa_len ha]; exact sz_ok hl, fun r hr => ?_⟩
    obtain ⟨g, s⟩ := new_lst w (dpa_rep ha k.toNat) hr
    exact q _ _ _ g s⟩
/-! ### items -/
theorem atI_dpa {B : Hp} {xs : List V} {es : List PyData} {i : Int} {D : PyData} (h : RpA B xs es) (e : atI es i = some D) : ∃ v, atI xs i = some v ∧ Rp B v D := by
  unfold atI at e ⊢
  rw [dpa_len h]
  cases q : ixN es.length i with
  | none => rw [q] at e; cases e
  | some j =>
    rw [q] at e
    exact dpa_get h e
theorem x_ixL {es : List PyData} {i : Int} {D : PyData} (h : atI es i = some D) (hK : X.K = c.K := by rfl) : IxX c X (.dat (.list es)) (I i) (.dat D) := ⟨_, ix_list, fun B M H x y Q w s1 s2 q => by
  cases s1 with
  | @lst p us _ hb ha =>
    cases s2
    obtain ⟨v, e, r⟩ := atI_dpa ha h
    exact ⟨p, us, i, v, rfl, rfl, .inl (.inl (w.b _ _ hb).2.2), e, q v B H (Go.refl w) r⟩⟩
theorem x_ixT {es : List PyData} {i : Int} {D : PyData} (h : atI es i = some D) (hK : X.K = c.K := by rfl) : IxX c X (.dat (.tuple es)) (I i) (.dat D) := ⟨_, ix_tup, fun B M H x y Q w s1 s2 q => by
  cases s1 with
  | @tup p us _ hb ha =>
    cases s2
    obtain ⟨v, e, r⟩ := atI_dpa ha h
    exact ⟨p, us, i, v, rfl, rfl, .inl (.inl (w.b _ _ hb).2.2), e, q v B H (Go.refl w) r⟩⟩
theorem x_ixS {z : Str} {i : Int} {ch : Nat} (h : atI z.cps.toList i = some ch) (hz : z.length ≤ 100000) : IxX c X (S z) (I i) (S ⟨#[ch]⟩) := ⟨_, ix_str, fun B M H x y Q w s1 s2 q => by
  cases s1
  cases s2
  exact ⟨z, i, ch, rfl, rfl, sz_ok hz, h, q _ B H (Go.refl w) (.str _)⟩⟩
/-- an item of a mutable list -/
theorem d_ixM {r : Addr} {xs : List Sl} {i : Int} (ha : PE X a (tD c ds M (.raw (.ref r)) M1)) (hb : PE X b (tD c ds M1 (I i) M2)) (hr : M2 r = some (.lst xs)) (hi : atI xs i = some d) (hs : PlainIx b := by exact fun _ _ => rfl) (hK : X.K = c.K := by rfl) : PE X (.Subscript a b pos) (tD c ds M d M2) := by
  refine PE.to (pe_ix ix_list ha hb hs) fun σ H Q ⟨B, w, s, q⟩ => ⟨B, w, s, fun x B1 H1 g1 s1 => ⟨B1, g1.w, s.mono g1.b, fun y B2 H2 g2 s2 => ?_⟩⟩
  cases s2
  obtain rfl : x = .ref r := s1
  obtain ⟨u, mr, hu⟩ := g2.w.m r _ hr
  cases mr with
  | @lst _ us sv =>
    have key : ∀ {xs : List Sl} {us : List V}, SlVs B2 xs us → ∀ j : Nat, xs[j]? = some d → ∃ v, us[j]? = some v ∧ SlV B2 d v := by
      intro xs us h
      induction h with
      | nil => intro j e; simp at e
      | cons h1 _ ih =>
        intro j e
        cases j with
        | zero =>
          rw [List.getElem?_cons_zero] at e
          cases e
          exact ⟨_, rfl, h1⟩
        | succ j =>
          rw [List.getElem?_cons_succ] at e
          obtain ⟨v, e1, e2⟩ := ih j e
          exact ⟨v, by rw [List.getElem?_cons_succ]; exact e1, e2⟩
    have : ∃ v, atI us i = some v ∧ SlV B2 d v := by
      unfold atI at hi ⊢
      rw [← sv.len]
      cases e : ixN xs.length i with
      | none => rw [e] at hi; cases hi
      | some j =>
        rw [e] at hi
        exact key sv j hi
    obtain ⟨v, ev, rv⟩ := this
    exact ⟨r, us, i, v, rfl, rfl, .inl (.inl hu), ev, q v B2 H2 (g1.trans g2) rv⟩
/-! ### len, int, str, abs, isinstance, tuple, list -/
theorem cad1 {r : List V → Hp → VK → Prop} (h : ∀ (B : Hp) (M : Mp) (H : Hp) (x : V) (Q : VK), Wd c B M H → SlV B d1 x → (∀ v B' H', Go c M H B M H' B' → SlV B' d v → Q v H') → r [x] H Q) : CaD c r [d1] d := fun B M H xs Q w s q => by
  cases s with
  | cons s1 s2 =>
    cases s2
    exact h B M H _ Q w s1 q
theorem y_len {D : PyData} (hl : lenD D ≤ 100000) (ht : match D with | .str _ => True | .list _ => True | .tuple _ => True | _ => False := by exact True.intro) (hK : X.K = c.K := by rfl) : CallX c X (.builtin "len") [.dat D] (I (lenD D : Nat)) := ⟨_, call_len, cad1 fun B M H x Q w s q => by
  cases s with
  | str z => exact ⟨_, _, rfl, ⟨sz_ok hl, rfl⟩, q _ B H (Go.refl w) (.int _)⟩
  | @lst p us es hb ha => exact ⟨_, _, rfl, .inl ⟨us, .inl (.inl (w.b _ _ hb).2.2), (dpa_len ha).symm⟩, q _ B H (Go.refl w) (.int _)⟩
  | @tup p us es hb ha => exact ⟨_, _, rfl, .inr ⟨us, .inl (.inl (w.b _ _ hb).2.2), (dpa_len ha).symm⟩, q _ B H (Go.refl w) (.int _)⟩
  | _ => exact ht.elim⟩
theorem y_intI {i : Int} : CallX c X (.type "int") [I i] (I i) := ⟨_, call_int1, cad1 fun B M H x Q w s q => by
  cases s
  exact .inl ⟨i, rfl, q _ B H (Go.refl w) (.int _)⟩⟩
theorem y_intS {z : Str} {n : Int} (h : PySem.intText? z = some n) (hz : z.length ≤ 640) : CallX c X (.type "int") [S z] (I n) := ⟨_, call_int_str, cad1 fun B M H x Q w s q => by
  cases s
  exact ⟨z, n, rfl, h, hz, q _ B H (Go.refl w) (.int _)⟩⟩
theorem y_str {i : Int} (h : i.natAbs.log2 < 1920) : CallX c X (.type "str") [I i] (S (toString i)) := ⟨_, call_str_int, cad1 fun B M H x Q w s q => by
  cases s
  exact ⟨i, rfl, h, q _ B H (Go.refl w) (.str _)⟩⟩
theorem y_abs {i : Int} : CallX c X (.builtin "abs") [I i] (I (if i < 0 then -i else i)) := ⟨_, call_abs, cad1 fun B M H x Q w s q => by
  cases s
  exact ⟨i, rfl, q _ B H (Go.refl w) (.int _)⟩⟩
def tyN : PyData → String
  | .none => "NoneType"
  | .bool _ => "bool"
  | .int _ => "int"
  | .str _ => "str"
  | .list _ => "list"
  | .tuple _ => "tuple"
  | .dict _ => "dict"
theorem rp_ty {K : PySem.W.Frag} {B H : Hp} {M : Mp} {D : PyData} {x : V} (w : Wd c B M H) (h : Rp B x D) : TyX K H x (.type (tyN D)) := by
  cases h with
  | non => exact .base .non
  | bl b => exact .base (.bl b)
  | int i => exact .base (.int i)
  | str z => exact .base (.str z)
  | lst hb _ => exact .base (.lst (w.b _ _ hb).2.2)
  | tup hb _ => exact .base (.tup (w.b _ _ hb).2.2)
theorem y_isi (N : String) (k : Bool) {D : PyData} {T : String} (h0 : tyN D = N := by rfl) (h : kitB N T = some k := by decide +kernel) : CallX c X (.builtin "isinstance") [.dat D, .raw (.ty T)] (Bo k) := ⟨_, call_isi, fun B M H xs Q w s q => by
  rw [← h0] at h
  cases s with
  | cons s1 s2 =>
    cases s2 with
    | cons s2 s3 =>
      cases s3
      obtain rfl := (show _ = V.ty T from s2)
      exact ⟨_, _, _, _, k, rfl, .ty T, rp_ty w s1, kit_ty h, q _ B H (Go.refl w) (.bl _)⟩⟩
theorem y_tupL {es : List PyData} (hK : X.K = c.K := by rfl) : CallX c X (.type "tuple") [.dat (.list es)] (.dat (.tuple es)) := ⟨_, call_tuple_of, cad1 fun B M H x Q w s q => by
  cases s with
  | @lst p us _ hb ha =>
    refine ⟨p, us, rfl, .inl ⟨.inl (.inl (w.b _ _ hb).2.2), fun l hl => ?_⟩⟩
    obtain ⟨g, r⟩ := new_tup w ha hl
    exact q _ _ _ g r⟩
theorem y_lstT {es : List PyData} (hK : X.K = c.K := by rfl) : CallX c X (.type "list") [.dat (.tuple es)] (.dat (.list es)) := ⟨_, call_list_of, cad1 fun B M H x Q w s q => by
  cases s with
  | @tup p us _ hb ha =>
    refine ⟨p, us, rfl, .inr (.inl (.inl (w.b _ _ hb).2.2)), fun l hl => ?_⟩
    obtain ⟨g, r⟩ := new_lst w ha hl
    exact q _ _ _ g r⟩
/-- isinstance(x, (tuple, list)) -/
theorem d_isi2 {D : PyData} {p1 p2 p3 p4 : Pos} {kk : Nat} (N : String) (k1 k2 k : Bool) (ha : PE X a (tD c ds M (.dat D) M1)) (mi : X.mg "isinstance" = none) (mt : X.mg "tuple" = none) (ml : X.mg "list" = none) (gi : Gl X "isinstance" := by rfl) (gt : Gl X "tuple" := by rfl) (gl : Gl X "list" := by rfl) (h0 : tyN D = N := by rfl) (h1 : kitB N "tuple" = some k1 := by decide +kernel) (h2 : kitB N "list" = some k2 := by decide +kernel) (hk : (k1 || k2) = k := by rfl)
    (he : starEach [a, .Tuple [.Name "tuple" p2, .Name "list" p3] kk p4] X.env = (false, eval a X.env) :: starEach [.Tuple [.Name "tuple" p2, .Name "list" p3] kk p4] X.env := by rfl)
    (he2 : starEach [.Tuple [.Name "tuple" p2, .Name "list" p3] kk p4] X.env = (false, eval (.Tuple [.Name "tuple" p2, .Name "list" p3] kk p4) X.env) :: starEach [] X.env := by rfl)
    (he3 : starEach [.Name "tuple" p2, .Name "list" p3] X.env = (false, eval (.Name "tuple" p2) X.env) :: starEach [.Name "list" p3] X.env := by rfl)
    (he4 : starEach [.Name "list" p3] X.env = (false, eval (.Name "list" p3) X.env) :: starEach [] X.env := by rfl)
    (hpl : (backTo pos (starEach [.Tuple [.Name "tuple" p2, .Name "list" p3] kk p4] X.env)).any (·.1) = false := by rfl) :
    PE X (.Call (.Name "isinstance" p1) [a, .Tuple [.Name "tuple" p2, .Name "list" p3] kk p4] [] pos) (tD c ds M (Bo k) M1) := by
  rw [← h0] at h1 h2
  refine PE.to (pe_callB call_isiT gi mi (by decide +kernel) (pa_cons ha (pa_cons (pe_tup (pa_cons (pe_bltn (v := .ty "tuple") (u := .type "tuple") gt mt (by decide +kernel) rfl) (pa_cons (pe_bltn (v := .ty "list") (u := .type "list") gl ml (by decide +kernel) rfl) pa_nil he4) he3)) pa_nil he2) he) (by decide) (by decide) he hpl) fun σ H Q ⟨B, w, s, q⟩ => ⟨B, w, s, fun x B1 H1 g1 s1 => ?_⟩
  refine ⟨by show 2 ≤ sizeLine; decide, fun p hp => ?_⟩
  have g2 := Go.newX g1.w hp (o := .tup [.ty "tuple", .ty "list"])
  refine ⟨x, p, [.ty "tuple", .ty "list"], .type (tyN D), [.type "tuple", .type "list"], k, rfl, upd_same, .cons (.ty _) (.cons (.ty _) .nil), ?_, ?_, q _ _ _ (g1.trans g2) (.bl _)⟩
  · have := rp_ty (K := X.K) g2.w s1
    exact this
  · have z2 : PySem.W.kitAny X.K (.type (tyN D)) [.type "list"] = some k2 := by
      unfold PySem.W.kitAny
      rw [kit_ty h2]
      cases k2 <;> rfl
    exact kitAny_cons (kit_ty h1) (fun e => by rw [z2, ← hk, e]; rfl) (fun e => by rw [← hk, e]; rfl)
end
end Zd
end
/-! ## Z3 -/
section
set_option Elab.async false
set_option linter.all false
set_option maxRecDepth 100000
set_option maxHeartbeats 4000000
/-! What is walked, targets, comprehensions, methods of texts. -/
namespace Zd
open PySem PySem.Spec PyProof.Rows L2
section
variable (c : Cg)
/-- from here on J gives the items es, one after the other -/
def Src (M : Mp) (B H : Hp) (J : It) (es : List PyData) : Prop := ∀ (M' : Mp) (H' B' : Hp), Go c M H B M' H' B' → J.stop es.length H' ∧
  ∀ (i : Nat) (d : PyData), es[i]? = some d → J.go i H' ∧ ∀ x H'', J.yld i H' x H'' → ∃ B'', Go c M' H' B' M' H'' B'' ∧ Rp B'' x d
def tI (ds : List Sl) (M : Mp) (es : List PyData) (M' : Mp) : TI := fun σ H R => ∃ B, Wd c B M H ∧ Sls B ds σ ∧ ∀ J B' H', Go c M H B M' H' B' → Src c M' B' H' J es → R J H'
def OutS (is : List Nat) (σ σ' : L2.St) : Prop := σ'.length = σ.length ∧ ∀ j, j ∉ is → σ'[j]? = σ[j]?
def gD (ds : List Sl) (M : Mp) (d : Sl) (ds' : List Sl) (is : List Nat) : TG := fun v σ H Q => ∃ B, Wd c B M H ∧ Sls B ds σ ∧ SlV B d v ∧ ∀ σ', Sls B ds' σ' → OutS is σ σ' → Q σ' H
def gsD (ds : List Sl) (M : Mp) (dd : List PyData) (ds' : List Sl) (is : List Nat) : TGs := fun vs σ H Q => ∃ B, Wd c B M H ∧ Sls B ds σ ∧ RpA B vs dd ∧ ∀ σ', Sls B ds' σ' → OutS is σ σ' → Q σ' H
end
section
variable {X : Cx} {c : Cg} {ds : List Sl} {M M1 M2 M3 : Mp} {a b e : Expr} {d d1 d2 d3 : Sl} {pos : Pos} {tg iter : Expr}
theorem PI.to {t t' : TI} (h : PI X tg iter t) (i : ∀ σ H R, t' σ H R → t σ H R) : PI X tg iter t' := ⟨fun pins s σ H R I hw => h.run pins s σ H R I (i σ H R hw)⟩
theorem PG.to {t t' : TG} (h : PG X tg t) (i : ∀ v σ H R, t' v σ H R → t v σ H R) : PG X tg t' := ⟨fun pins s σ H v u Q I r hw => h.run pins s σ H v u Q I r (i v σ H Q hw)⟩
theorem PGs.to {es : List Expr} {t t' : TGs} (h : PGs X es t) (i : ∀ v σ H R, t' v σ H R → t v σ H R) : PGs X es t' := ⟨fun pins s σ H v u Q I r hw => h.run pins s σ H v u Q I r (i v σ H Q hw)⟩

/-! ### sources -/
theorem src_lst {M : Mp} {B H : Hp} {p : Addr} {us : List V} {es : List PyData} (hb : B p = some (.lst us)) (ha : RpA B us es) : Src c M B H (Itl c.K p) es := fun M' H' B' g => by
  have h1 := g.b _ _ hb
  have h2 := (g.w.b _ _ h1).2.2
  have hs : SqL c.K H' p us := .inl (.inl h2)
  refine ⟨⟨us, hs, Nat.le_of_eq (dpa_len ha)⟩, fun i d e => ?_⟩
  obtain ⟨v, ev, rv⟩ := dpa_get ha e
  refine ⟨⟨us, v, hs, ev⟩, fun x H'' hy => ?_⟩
  obtain ⟨rfl, hx⟩ := hy
  have ex := hx us hs
  rw [ev] at ex
  cases ex
  exact ⟨B', Go.refl g.w, dp_mono g.b _ _ rv⟩
theorem src_tup {M : Mp} {B H : Hp} {p : Addr} {us : List V} {es : List PyData} (hb : B p = some (.tup us)) (ha : RpA B us es) : Src c M B H (Itt c.K p) es := fun M' H' B' g => by
  have h1 := g.b _ _ hb
  have h2 := (g.w.b _ _ h1).2.2
  have hs : SqT c.K H' p us := .inl (.inl h2)
  refine ⟨⟨us, hs, Nat.le_of_eq (dpa_len ha)⟩, fun i d e => ?_⟩
  obtain ⟨v, ev, rv⟩ := dpa_get ha e
  refine ⟨⟨us, v, hs, ev⟩, fun x H'' hy => ?_⟩
  obtain ⟨rfl, hx⟩ := hy
  have ex := hx us hs
  rw [ev] at ex
  cases ex
  exact ⟨B', Go.refl g.w, dp_mono g.b _ _ rv⟩
theorem i_lst {es : List PyData} (h : PE X iter (tD c ds M (.dat (.list es)) M1)) (hK : X.K = c.K := by rfl) : PI X tg iter (tI c ds M es M1) :=
  PI.to (pi_list h) fun σ H R ⟨B, w, s, q⟩ => ⟨B, w, s, fun x B1 H1 g sv => by
    cases sv with
    | @lst p us _ hb ha => exact ⟨p, rfl, ⟨us, .inl (.inl (g.w.b _ _ hb).2.2)⟩, by rw [hK]; exact q _ B1 H1 g (src_lst hb ha)⟩⟩
theorem i_tup {es : List PyData} (h : PE X iter (tD c ds M (.dat (.tuple es)) M1)) (hK : X.K = c.K := by rfl) : PI X tg iter (tI c ds M es M1) :=
  PI.to (pi_tup h) fun σ H R ⟨B, w, s, q⟩ => ⟨B, w, s, fun x B1 H1 g sv => by
    cases sv with
    | @tup p us _ hb ha => exact ⟨p, rfl, ⟨us, .inl (.inl (g.w.b _ _ hb).2.2)⟩, by rw [hK]; exact q _ B1 H1 g (src_tup hb ha)⟩⟩
def signs (z : Str) : List PyData := z.cps.toList.map fun ch => .str ⟨#[ch]⟩
theorem i_str {z : Str} (h : PE X iter (tD c ds M (S z) M1)) : PI X tg iter (tI c ds M (signs z) M1) :=
  PI.to (pi_str h) fun σ H R ⟨B, w, s, q⟩ => ⟨B, w, s, fun x B1 H1 g sv => by
    cases sv
    refine ⟨z, rfl, q _ B1 H1 g fun M' H' B' g' => ⟨?_, fun i d e => ?_⟩⟩
    · show z.cps.size ≤ (signs z).length
      unfold signs
      rw [List.length_map, Array.length_toList]
      exact Nat.le_refl _
    · unfold signs at e
      rw [List.getElem?_map] at e
      cases e2 : z.cps.toList[i]? with
      | none => rw [e2] at e; cases e
      | some ch =>
        rw [e2] at e
        cases e
        have e3 : z.cps[i]? = some ch := by rw [← Array.getElem?_toList]; exact e2
        refine ⟨(Array.getElem?_eq_some_iff.mp e3).1, fun x H'' hy => ?_⟩
        obtain ⟨rfl, ch', e4, rfl⟩ := hy
        rw [e3] at e4
        cases e4
        exact ⟨B', Go.refl g'.w, .str _⟩⟩
def rngD (lo : Int) (n : Nat) : List PyData := (List.range n).map fun k => .int (lo + (k : Nat))
theorem rngD_len {lo : Int} {n : Nat} : (rngD lo n).length = n := by unfold rngD; rw [List.length_map, List.length_range]
theorem rngD_get {lo : Int} {n i : Nat} {D : PyData} (h : (rngD lo n)[i]? = some D) : i < n ∧ D = .int (lo + (i : Nat)) := by
  unfold rngD at h
  rw [List.getElem?_map] at h
  by_cases hi : i < n
  · rw [List.getElem?_range hi] at h
    cases h
    exact ⟨hi, rfl⟩
  · rw [List.getElem?_eq_none (by rw [List.length_range]; omega)] at h
    cases h
theorem src_rng {M : Mp} {B H : Hp} {lo : Int} {n : Nat} : Src c M B H (Itr lo n) (rngD lo n) := fun M' H' B' g => by
  refine ⟨?_, fun i d e => ?_⟩
  · show n ≤ (rngD lo n).length
    rw [rngD_len]
    exact Nat.le_refl _
  · obtain ⟨hi, rfl⟩ := rngD_get e
    refine ⟨hi, fun x H'' hy => ?_⟩
    obtain ⟨rfl, rfl⟩ := hy
    exact ⟨B', Go.refl g.w, .int _⟩
theorem i_rng1 {p : Pos} {n : Int} (h : PE X a (tD c ds M (I n) M1)) (hn : -1000000 ≤ n ∧ n ≤ 1000000) (hm : X.mg "range" = none) (hg : Gl X "range" := by rfl) (hs : starEach [a] X.env = [(false, eval a X.env)] := by rfl) :
    PI X tg (.Call (.Name "range" p) [a] [] pos) (tI c ds M (rngD 0 n.toNat) M1) :=
  PI.to (pi_range1 hg hm (pa_cons h pa_nil hs) hs) fun σ H R ⟨B, w, s, q⟩ => ⟨B, w, s, fun x B1 H1 g sv => by
    cases sv
    exact ⟨n, rfl, by omega, by omega, q _ B1 H1 g src_rng⟩⟩
theorem i_rng2 {p : Pos} {lo n : Int} (h : PE X a (tD c ds M (I lo) M1)) (h' : PE X b (tD c ds M1 (I n) M2)) (hn : -1000000 ≤ n ∧ n ≤ 1000000 ∧ -1000000 ≤ lo ∧ lo ≤ 1000000) (hm : X.mg "range" = none) (hg : Gl X "range" := by rfl) (hs : starEach [a, b] X.env = [(false, eval a X.env), (false, eval b X.env)] := by rfl)
    (hs2 : starEach [b] X.env = [(false, eval b X.env)] := by rfl) : PI X tg (.Call (.Name "range" p) [a, b] [] pos) (tI c ds M (rngD lo (n - lo).toNat) M2) :=
  PI.to (pi_range2 hg hm (pa_cons h (pa_cons h' pa_nil hs2) (by rw [hs, hs2])) hs hs2) fun σ H R ⟨B, w, s, q⟩ => ⟨B, w, s, fun x B1 H1 g sv => ⟨B1, g.w, s.mono g.b, fun y B2 H2 g2 sv2 => by
    cases sv
    cases sv2
    exact ⟨lo, n, rfl, by omega, q _ B2 H2 (g.trans g2) src_rng⟩⟩⟩
def enumD : Nat → List PyData → List PyData
  | _, [] => []
  | k, d :: ds => .tuple [.int (k : Nat), d] :: enumD (k + 1) ds
theorem enumD_len : ∀ (k : Nat) (es : List PyData), (enumD k es).length = es.length
  | _, [] => rfl
  | k, d :: ds => by
    show (enumD (k + 1) ds).length + 1 = _
    rw [enumD_len (k + 1) ds]
    rfl
theorem enumD_get : ∀ {k : Nat} {es : List PyData} {i : Nat} {D : PyData}, (enumD k es)[i]? = some D → ∃ d, es[i]? = some d ∧ D = .tuple [.int ((k + i : Nat) : Int), d]
  | _, [], _, _, h => by simp [enumD] at h
  | k, d :: ds, 0, D, h => by
    have e : some (PyData.tuple [.int (k : Nat), d]) = some D := h
    cases e
    exact ⟨d, rfl, rfl⟩
  | k, d :: ds, i + 1, D, h => by
    have h' : (enumD (k + 1) ds)[i]? = some D := h
    obtain ⟨d', e1, e2⟩ := enumD_get h'
    refine ⟨d', e1, ?_⟩
    rw [e2, show k + 1 + i = k + (i + 1) by omega]
theorem i_enum {p tpos : Pos} {elts : List Expr} {kk : Nat} {es : List PyData} (h : PE X a (tD c ds M (.dat (.list es)) M1)) (hm : X.mg "enumerate" = none) (hg : Gl X "enumerate" := by rfl) (hs : starEach [a] X.env = [(false, eval a X.env)] := by rfl) (hK : X.K = c.K := by rfl) :
    PI X (.Tuple elts kk tpos) (.Call (.Name "enumerate" p) [a] [] pos) (tI c ds M (enumD 0 es) M1) :=
  PI.to (pi_enum hg hm (pa_cons h pa_nil hs) hs) fun σ H R ⟨B, w, s, q⟩ => ⟨B, w, s, fun x B1 H1 g sv => by
    cases sv with
    | @lst p us _ hb ha =>
      refine ⟨p, us, rfl, .inl (.inl (g.w.b _ _ hb).2.2), ?_⟩
      rw [hK]
      refine q _ B1 H1 g fun M' H' B' g' => ?_
      have hs' : SqL c.K H' p us := .inl (.inl (g'.w.b _ _ (g'.b _ _ hb)).2.2)
      refine ⟨⟨us, hs', by rw [enumD_len]; exact Nat.le_of_eq (dpa_len ha)⟩, fun i D e => ?_⟩
      obtain ⟨d, e1, rfl⟩ := enumD_get e
      obtain ⟨v, ev, rv⟩ := dpa_get ha e1
      refine ⟨⟨us, v, hs', ev⟩, fun x H'' hy => ?_⟩
      obtain ⟨T, x1, rfl, nT, rfl, hx⟩ := hy
      have ex := hx us hs'
      rw [ev] at ex
      cases ex
      have r : RpA B' [V.int (i : Nat), v] [PyData.int ((0 + i : Nat) : Int), d] := by
        rw [Nat.zero_add]
        exact .cons (.int _) (.cons (dp_mono g'.b _ _ rv) .nil)
      obtain ⟨g2, s2⟩ := new_tup g'.w r nT
      exact ⟨_, g2, s2⟩⟩
def zipD (xs ys : List PyData) : List PyData := List.zipWith (fun x y => .tuple [x, y]) xs ys
theorem zipD_get {xs ys : List PyData} {i : Nat} {D : PyData} (h : (zipD xs ys)[i]? = some D) : ∃ x y, xs[i]? = some x ∧ ys[i]? = some y ∧ D = .tuple [x, y] := by
  unfold zipD at h
  rw [List.getElem?_zipWith] at h
  cases hx : xs[i]? with
  | none => rw [hx] at h; cases h
  | some x =>
    cases hy : ys[i]? with
    | none => rw [hx, hy] at h; cases h
    | some y =>
      rw [hx, hy] at h
      cases h
      exact ⟨x, y, rfl, rfl, rfl⟩
theorem i_zipT {p tpos : Pos} {elts : List Expr} {kk : Nat} {xs ys : List PyData} (h : PE X a (tD c ds M (.dat (.tuple xs)) M1)) (h' : PE X b (tD c ds M1 (.dat (.tuple ys)) M2)) (hm : X.mg "zip" = none) (hg : Gl X "zip" := by rfl)
    (hs : starEach [a, b] X.env = (false, eval a X.env) :: starEach [b] X.env := by rfl) (hs2 : starEach [b] X.env = (false, eval b X.env) :: starEach [] X.env := by rfl) (hpl : (backTo pos (starEach [b] X.env)).any (·.1) = false := by rfl) (hK : X.K = c.K := by rfl) :
    PI X (.Tuple elts kk tpos) (.Call (.Name "zip" p) [a, b] [] pos) (tI c ds M (zipD xs ys) M2) :=
  PI.to (RZ.pi_zipA hg hm (pa_cons h (pa_cons h' pa_nil hs2) hs) hs hpl) fun σ H R ⟨B, w, s, q⟩ => ⟨B, w, s, fun x B1 H1 g sv => ⟨B1, g.w, s.mono g.b, fun y B2 H2 g2 sv2 => by
    cases sv with
    | @tup p us _ hb ha =>
      cases sv2 with
      | @tup p' vs _ hb' ha' =>
        refine ⟨p, p', us, vs, rfl, .inr ⟨.inl (.inl (g2.w.b _ _ (g2.b _ _ hb)).2.2), .inl (.inl (g2.w.b _ _ hb').2.2), ?_⟩⟩
        rw [hK]
        refine q _ B2 H2 (g.trans g2) fun M' H' B' g' => ?_
        have h1 : SqT c.K H' p us := .inl (.inl (g'.w.b _ _ (g'.b _ _ (g2.b _ _ hb))).2.2)
        have h2 : SqT c.K H' p' vs := .inl (.inl (g'.w.b _ _ (g'.b _ _ hb')).2.2)
        have l1 := dpa_len ha
        have l2 := dpa_len ha'
        refine ⟨⟨us, vs, h1, h2, ?_⟩, fun i D e => ?_⟩
        · unfold zipD
          rw [List.length_zipWith, l1, l2]
          omega
        · obtain ⟨dx, dy, e1, e2, rfl⟩ := zipD_get e
          obtain ⟨v, ev, rv⟩ := dpa_get ha e1
          obtain ⟨v', ev', rv'⟩ := dpa_get ha' e2
          refine ⟨⟨us, vs, v, v', h1, h2, ev, ev'⟩, fun x H'' hy => ?_⟩
          obtain ⟨T, x1, y1, rfl, nT, rfl, hx, hy⟩ := hy
          have ex := hx us h1
          rw [ev] at ex
          cases ex
          have ey := hy vs h2
          rw [ev'] at ey
          cases ey
          have r : RpA B' [v, v'] [dx, dy] := .cons (dp_mono (fun a o z => g'.b a o (g2.b a o z)) _ _ rv) (.cons (dp_mono g'.b _ _ rv') .nil)
          obtain ⟨g3, s3⟩ := new_tup g'.w r nT
          exact ⟨_, g3, s3⟩⟩⟩

/-! ### targets -/
theorem OutS.refl {is : List Nat} {σ : L2.St} : OutS is σ σ := ⟨rfl, fun _ _ => rfl⟩
theorem outS_set {i : Nat} {σ : L2.St} {o : Option V} : OutS [i] σ (σ.set i o) := ⟨List.length_set, fun j hj => by
  rw [List.getElem?_set_ne]
  intro e
  exact hj (by rw [e]; exact List.mem_singleton.mpr rfl)⟩
theorem OutS.trans {is js : List Nat} {σ σ1 σ2 : L2.St} (a : OutS is σ σ1) (b : OutS js σ1 σ2) : OutS (is ++ js) σ σ2 := ⟨b.1.trans a.1, fun j hj => by
  rw [List.mem_append, not_or] at hj
  exact (b.2 j hj.2).trans (a.2 j hj.1)⟩
theorem g_name (i : Nat) {x : Str} (hN : X.N.Nodup) (hi : X.N[i]? = some x := by rfl) (hx : Loc X.env.scope x := by first | exact Or.inl rfl | exact Or.inr rfl) (hf : X.fn x = true ∨ X.env.scope.names.lookup x = some .local := by first | exact Or.inl rfl | exact Or.inr rfl) : PG X (.Name x pos) (gD c ds M d (ds.set i d) [i]) :=
  PG.to (pg_name hN hi hx hf) fun v σ H Q ⟨B, w, s, sv, q⟩ => q _ (s.set sv.o i) outS_set
theorem gs_nil : PGs X [] (gsD c ds M [] ds []) := PGs.to pgs_nil fun vs σ H Q ⟨B, w, s, r, q⟩ => by
  cases r
  exact ⟨rfl, q σ s .refl⟩
theorem gs_cons {es : List Expr} {D : PyData} {dd : List PyData} {ds1 ds2 : List Sl} {is js : List Nat} (h : PG X e (gD c ds M (.dat D) ds1 is)) (h2 : PGs X es (gsD c ds1 M dd ds2 js)) (hs : (assignEach (e :: es) X.env).map (·.2) = assign e X.env :: (assignEach es X.env).map (·.2) := by rfl) :
    PGs X (e :: es) (gsD c ds M (D :: dd) ds2 (is ++ js)) := PGs.to (pgs_cons h h2 hs) fun vs σ H Q ⟨B, w, s, r, q⟩ => by
  cases r with
  | cons r1 r2 => exact ⟨_, _, rfl, B, w, s, r1, fun σ1 s1 o1 => ⟨B, w, s1, r2, fun σ2 s2 o2 => q σ2 s2 (o1.trans o2)⟩⟩
theorem g_tup {es : List Expr} {k : Nat} {dd : List PyData} {ds' : List Sl} {is : List Nat} (h : PGs X es (gsD c ds M dd ds' is)) (hc : X.calm = true := by rfl) (hn : (assignEach es X.env).length = dd.length := by rfl) (hst : (assignEach es X.env).findIdx? (·.1) = none := by rfl) (hK : X.K = c.K := by rfl) :
    PG X (.Tuple es k pos) (gD c ds M (.dat (.tuple dd)) ds' is) := PG.to (pg_tup hc h hn hst) fun v σ H Q ⟨B, w, s, r, q⟩ => by
  cases r with
  | @tup p us _ hb ha => exact ⟨p, us, rfl, .inl (.inl (w.b _ _ hb).2.2), dpa_len ha, B, w, s, ha, q⟩

/-! ### comprehensions -/
theorem wipe_get {σ : L2.St} : ∀ {vs : List Nat} {j : Nat}, (wipe σ vs)[j]? = if j ∈ vs then (if j < σ.length then some none else none) else σ[j]?
  | [], j => by simp [wipe]
  | v :: vs, j => by
    unfold wipe
    by_cases h : v = j
    · subst h
      rw [if_pos List.mem_cons_self]
      by_cases hl : v < σ.length
      · rw [List.getElem?_set_self (by rw [wipe_length]; exact hl), if_pos hl]
      · rw [List.getElem?_eq_none (by rw [List.length_set, wipe_length]; omega), if_neg hl]
    · rw [List.getElem?_set_ne h, wipe_get (vs := vs)]
      by_cases hm : j ∈ vs
      · rw [if_pos hm, if_pos (List.mem_cons_of_mem _ hm)]
      · rw [if_neg hm, if_neg]
        intro z
        rcases List.mem_cons.mp z with z | z
        · exact h z.symm
        · exact hm z
theorem wipe_out {σ σ' : L2.St} {vs is : List Nat} (o : OutS is (wipe σ vs) σ') (h : ∀ i ∈ is, i ∈ vs) : wipe σ' vs = wipe σ vs := by
  have hl : σ'.length = σ.length := by rw [o.1, wipe_length]
  apply List.ext_getElem?
  intro j
  rw [wipe_get, wipe_get, hl]
  by_cases hj : j ∈ vs
  · rw [if_pos hj, if_pos hj]
  · rw [if_neg hj, if_neg hj, o.2 j (fun z => hj (h j z)), wipe_get, if_neg hj]
theorem PTs.to {ifs : List Expr} {t t' : TT} (h : PTs X ifs t) (i : ∀ σ H Q, t' σ H Q → t σ H Q) : PTs X ifs t' := ⟨fun pins s σ H Q I hw => h.run pins s σ H Q I (i σ H Q hw)⟩
theorem ts_nil : PTs X [] (tDT c ds M true M) := PTs.to pts_nil fun σ H Q ⟨B, w, s, q⟩ => q B H (Go.refl w)
theorem ts_one {k : Bool} (h : PT X e (tDT c ds M k M1)) : PTs X [e] (tDT c ds M k M1) := pts_one h
/-- a comprehension, as a value or at a name -/
def LcOk (X : Cx) (c : Cg) (ds : List Sl) (M : Mp) (e : Expr) (d : Sl) (M1 : Mp) : Prop := ∃ t, PE X e t ∧ (∀ (i : Nat) (y : Str) (py spos : Pos), X.N[i]? = some y → X.env.scope.names.lookup y = some .local → swapsWith e (some (.Name y py)) spos.line X.env = pure true → PS X (.Assign [.Name y py] e spos) (tAsg t (gName i))) ∧ ∀ σ H Q, tD c ds M d M1 σ H Q → t σ H Q
theorem l_lcG {elt : Expr} {ifs : List Expr} {scope : Scope} {own : List (Str × Nat)} (es : List PyData) (Mi : Nat → Mp) (acc : Nat → List PyData) (p : Nat → Bool) (v : Nat → PyData) (T : Nat → List Sl) (is : List Nat)
    (hc : X.calm = true) (hN : X.N.Nodup) (ok : BlkOk X.N X.env.scope scope own)
    (hi : PI X tg iter (tI c ds M es (Mi 0))) (h0 : acc 0 = []) (his : ∀ i ∈ is, i ∈ own.map (·.2)) (hl : es.length ≤ 90000)
    (hg : ∀ (i : Nat) (D : PyData), es[i]? = some D → ∀ (s : Shared) (H : Hp) (C : Addr) (cl : List (Str × Addr)) (fp : List Addr), PG (X.blk s H scope (compEnvC scope cl C X.env) fp) tg (gD c (wipeS ds (own.map (·.2))) (Mi i) (.dat D) (T i) is))
    (ht : ∀ (i : Nat) (D : PyData), es[i]? = some D → ∀ (s : Shared) (H : Hp) (C : Addr) (cl : List (Str × Addr)) (fp : List Addr), PTs (X.blk s H scope (compEnvC scope cl C X.env) fp) ifs (tDT c (T i) (Mi i) (p i) (Mi i)))
    (he : ∀ (i : Nat) (D : PyData), es[i]? = some D → p i = true → ∀ (s : Shared) (H : Hp) (C : Addr) (cl : List (Str × Addr)) (fp : List Addr), PE (X.blk s H scope (compEnvC scope cl C X.env) fp) elt (tD c (T i) (Mi i) (.dat (v i)) (Mi (i + 1))))
    (hn : ∀ (i : Nat) (D : PyData), es[i]? = some D → p i = false → Mi (i + 1) = Mi i)
    (ha : ∀ (i : Nat) (D : PyData), es[i]? = some D → acc (i + 1) = if p i = true then acc i ++ [v i] else acc i)
    (hs : ∀ x, foldedSetIterable iter X.env x = pure x := by intro _; rfl) :
    LcOk X c ds M (.ListComp elt [⟨tg, iter, ifs, 0⟩] scope pos) (.dat (.list (acc es.length))) (Mi es.length) := by
  have G : ∀ (s : Shared) (H : Hp) (C : Addr) (cl : List (Str × Addr)) (fp : List Addr), PG (X.blk s H scope (compEnvC scope cl C X.env) fp) tg (fun x σ H Q => ∃ i D, es[i]? = some D ∧ gD c (wipeS ds (own.map (·.2))) (Mi i) (.dat D) (T i) is x σ H Q) :=
    fun s H C cl fp => ⟨fun pins s' σ H' x u Q I r ⟨i, D, e, hw⟩ => (hg i D e s H C cl fp).run pins s' σ H' x u Q I r hw⟩
  have T' : ∀ (s : Shared) (H : Hp) (C : Addr) (cl : List (Str × Addr)) (fp : List Addr), PTs (X.blk s H scope (compEnvC scope cl C X.env) fp) ifs (fun σ H Q => ∃ i D, es[i]? = some D ∧ tDT c (T i) (Mi i) (p i) (Mi i) σ H Q) :=
    fun s H C cl fp => ⟨fun pins s' σ H' Q I ⟨i, D, e, hw⟩ => (ht i D e s H C cl fp).run pins s' σ H' Q I hw⟩
  have E : ∀ (s : Shared) (H : Hp) (C : Addr) (cl : List (Str × Addr)) (fp : List Addr), PE (X.blk s H scope (compEnvC scope cl C X.env) fp) elt (fun σ H Q => ∃ i D, es[i]? = some D ∧ p i = true ∧ tD c (T i) (Mi i) (.dat (v i)) (Mi (i + 1)) σ H Q) :=
    fun s H C cl fp => ⟨fun pins s' σ H' Q I ⟨i, D, e, hp, hw⟩ => (he i D e hp s H C cl fp).run pins s' σ H' Q I hw⟩
  refine ⟨_, pe_lc hc hN hi ok G T' E hs, fun i y py spos hy hyl hsw => ps_setLc hc hN hy hyl hsw hi ok G T' E hs, fun σ H Q ⟨B, w, sl, q⟩ => ⟨B, w, sl, fun J B1 H1 g1 src D hD => ?_⟩⟩
  refine ⟨fun i m H => m + i = es.length ∧ ∃ (B2 : Hp) (us : List V), Go c (Mi 0) H1 B1 (Mi i) H B2 ∧ RpA B2 us (acc i) ∧ H D = some (.lst us) ∧ us.length ≤ i ∧ B2 D = none ∧ (Mi i) D = none,
    ⟨es.length, Nat.add_zero _, B1, [], Go.newX g1.w hD, by rw [h0]; exact .nil, upd_same, Nat.le_refl _, g1.w.freeB hD, g1.w.freeM hD⟩, fun i m H2 hW => ?_⟩
  obtain ⟨hm, B2, us, g2, ra, hu, hul, nB, nM⟩ := hW
  obtain ⟨st, tn⟩ := src (Mi i) H2 B2 g2
  by_cases hi' : i = es.length
  · subst hi'
    refine .inl ⟨st, ?_⟩
    have g3 := Go.asB g2 hD hu nt_lst nB nM
    exact q _ _ _ (g1.trans g3) (.lst upd_same (dpa_mono (fun a o e => by rw [upd_ne (ne_of_none e nB)]; exact e) _ _ ra))
  · have hlt : i < es.length := by omega
    have e : es[i]? = some es[i] := List.getElem?_eq_getElem hlt
    obtain ⟨go, yl⟩ := tn i _ e
    refine .inr ⟨go, fun H' => ∃ (B2 : Hp) (us : List V), Go c (Mi 0) H1 B1 (Mi (i + 1)) H' B2 ∧ RpA B2 us (acc (i + 1)) ∧ H' D = some (.lst us) ∧ us.length ≤ i + 1 ∧ B2 D = none ∧ (Mi (i + 1)) D = none, fun H' hN' => ⟨m - 1, by omega, by omega, hN'⟩, fun x H3 hy => ?_⟩
    obtain ⟨B3, g3, rx⟩ := yl x H3 hy
    have s3 : Sls B3 ds σ := sl.mono fun a o e => g3.b a o (g2.b a o (g1.b a o e))
    have u3 : H3 D = some (.lst us) := g3.f D _ hu nt_lst nM
    have n3 : B3 D = none := g3.n D _ hu nB
    refine ⟨i, _, e, B3, g3.w, s3.wipe _, rx, fun σ2 s2 o2 => ⟨wipe_out o2 his, i, _, e, B3, g3.w, s2, fun B4 H4 g4 => ?_⟩⟩
    have u4 : H4 D = some (.lst us) := g4.f D _ u3 nt_lst nM
    have n4 : B4 D = none := g4.n D _ u3 n3
    have g24 := g2.trans (g3.trans g4)
    cases hp : p i with
    | true =>
      refine iteT ?_
      refine ⟨i, _, e, hp, B4, g4.w, s2.mono g4.b, fun y B5 H5 g5 ry => ?_⟩
      have u5 : H5 D = some (.lst us) := g5.f D _ u4 nt_lst nM
      have n5 : B5 D = none := g5.n D _ u4 n4
      have m5 : (Mi (i + 1)) D = none := g5.g D _ u4 nM
      refine ⟨us, u5, Nat.lt_of_lt_of_le (Nat.lt_of_le_of_lt hul (show i < 100000 by omega)) (by decide), B5, us ++ [y], Go.onX (g24.trans g5) hD u5 (by rintro (⟨_, z⟩ | ⟨_, z⟩) <;> cases z) n5 m5, ?_, upd_same, by rw [List.length_append]; exact Nat.add_le_add_right hul 1, n5, m5⟩
      rw [ha i _ e, if_pos hp]
      exact dpa_app (dpa_mono (fun a o z => g5.b a o (g4.b a o (g3.b a o z))) _ _ ra) (.cons ry .nil)
    | false =>
      refine iteF ?_
      have em := hn i _ e hp
      rw [em, ha i _ e, if_neg (by rw [hp]; exact Bool.false_ne_true)]
      exact ⟨B4, us, g24, dpa_mono (fun a o z => g4.b a o (g3.b a o z)) _ _ ra, u4, Nat.le_succ_of_le hul, n4, nM⟩
theorem d_lcG {elt : Expr} {ifs : List Expr} {scope : Scope} {own : List (Str × Nat)} (es : List PyData) (Mi : Nat → Mp) (acc : Nat → List PyData) (p : Nat → Bool) (v : Nat → PyData) (T : Nat → List Sl) (is : List Nat)
    (hc : X.calm = true) (hN : X.N.Nodup) (ok : BlkOk X.N X.env.scope scope own)
    (hi : PI X tg iter (tI c ds M es (Mi 0))) (h0 : acc 0 = []) (his : ∀ i ∈ is, i ∈ own.map (·.2)) (hl : es.length ≤ 90000)
    (hg : ∀ (i : Nat) (D : PyData), es[i]? = some D → ∀ (s : Shared) (H : Hp) (C : Addr) (cl : List (Str × Addr)) (fp : List Addr), PG (X.blk s H scope (compEnvC scope cl C X.env) fp) tg (gD c (wipeS ds (own.map (·.2))) (Mi i) (.dat D) (T i) is))
    (ht : ∀ (i : Nat) (D : PyData), es[i]? = some D → ∀ (s : Shared) (H : Hp) (C : Addr) (cl : List (Str × Addr)) (fp : List Addr), PTs (X.blk s H scope (compEnvC scope cl C X.env) fp) ifs (tDT c (T i) (Mi i) (p i) (Mi i)))
    (he : ∀ (i : Nat) (D : PyData), es[i]? = some D → p i = true → ∀ (s : Shared) (H : Hp) (C : Addr) (cl : List (Str × Addr)) (fp : List Addr), PE (X.blk s H scope (compEnvC scope cl C X.env) fp) elt (tD c (T i) (Mi i) (.dat (v i)) (Mi (i + 1))))
    (hn : ∀ (i : Nat) (D : PyData), es[i]? = some D → p i = false → Mi (i + 1) = Mi i)
    (ha : ∀ (i : Nat) (D : PyData), es[i]? = some D → acc (i + 1) = if p i = true then acc i ++ [v i] else acc i)
    (hs : ∀ x, foldedSetIterable iter X.env x = pure x := by intro _; rfl) :
    PE X (.ListComp elt [⟨tg, iter, ifs, 0⟩] scope pos) (tD c ds M (.dat (.list (acc es.length))) (Mi es.length)) := by
  obtain ⟨t, h1, _, h3⟩ := l_lcG es Mi acc p v T is hc hN ok hi h0 his hl hg ht he hn ha hs (X := X) (c := c) (ds := ds) (M := M) (pos := pos) (tg := tg) (iter := iter) (elt := elt) (ifs := ifs) (scope := scope) (own := own)
  exact PE.to h1 h3
/-- .. of items all alike, nothing changed -/
theorem l_lc {α : Type} {elt : Expr} {ifs : List Expr} {scope : Scope} {own : List (Str × Nat)} {as : List α} {g : α → PyData} {es : List PyData} (p : α → Bool) (v : α → PyData) (T : α → List Sl) (is : List Nat)
    (hes : es = as.map g) (hc : X.calm = true) (hN : X.N.Nodup) (ok : BlkOk X.N X.env.scope scope own)
    (hi : PI X tg iter (tI c ds M es M1)) (his : ∀ i ∈ is, i ∈ own.map (·.2)) (hl : as.length ≤ 90000)
    (hg : ∀ a ∈ as, ∀ (s : Shared) (H : Hp) (C : Addr) (cl : List (Str × Addr)) (fp : List Addr), PG (X.blk s H scope (compEnvC scope cl C X.env) fp) tg (gD c (wipeS ds (own.map (·.2))) M1 (.dat (g a)) (T a) is))
    (ht : ∀ a ∈ as, ∀ (s : Shared) (H : Hp) (C : Addr) (cl : List (Str × Addr)) (fp : List Addr), PTs (X.blk s H scope (compEnvC scope cl C X.env) fp) ifs (tDT c (T a) M1 (p a) M1))
    (he : ∀ a ∈ as, p a = true → ∀ (s : Shared) (H : Hp) (C : Addr) (cl : List (Str × Addr)) (fp : List Addr), PE (X.blk s H scope (compEnvC scope cl C X.env) fp) elt (tD c (T a) M1 (.dat (v a)) M1))
    (hs : ∀ x, foldedSetIterable iter X.env x = pure x := by intro _; rfl) :
    LcOk X c ds M (.ListComp elt [⟨tg, iter, ifs, 0⟩] scope pos) (.dat (.list ((as.filter p).map v))) M1 := by
  subst hes
  have get : ∀ (i : Nat) (D : PyData), (as.map g)[i]? = some D → ∃ a, as[i]? = some a ∧ D = g a ∧ a ∈ as := fun i D e => by
    rw [List.getElem?_map] at e
    cases q : as[i]? with
    | none => rw [q] at e; cases e
    | some a =>
      rw [q] at e
      cases e
      exact ⟨a, rfl, rfl, List.mem_of_getElem? q⟩
  cases as with
  | nil =>
    have := l_lcG (X := X) (c := c) (ds := ds) (M := M) (pos := pos) (elt := elt) (ifs := ifs) (scope := scope) (own := own) ([] : List PyData) (fun _ => M1) (fun _ => []) (fun _ => false) (fun _ => .none) (fun _ => []) [] hc hN ok hi rfl (fun _ h => by cases h) (Nat.zero_le _)
      (fun i D e => by simp at e) (fun i D e => by simp at e) (fun i D e => by simp at e) (fun i D e => by simp at e) (fun i D e => by simp at e) hs
    exact this
  | cons a0 ar =>
    have at_ : ∀ i : Nat, ∀ a, (a0 :: ar)[i]? = some a → (a0 :: ar).getD i a0 = a := fun i a e => by rw [List.getD_eq_getElem?_getD, e]; rfl
    have := l_lcG (X := X) (c := c) (ds := ds) (M := M) (pos := pos) (elt := elt) (ifs := ifs) (scope := scope) (own := own) ((a0 :: ar).map g) (fun _ => M1) (fun i => (((a0 :: ar).take i).filter p).map v) (fun i => p ((a0 :: ar).getD i a0)) (fun i => v ((a0 :: ar).getD i a0)) (fun i => T ((a0 :: ar).getD i a0)) is hc hN ok hi rfl his (by rw [List.length_map]; exact hl)
      (fun i D e => by obtain ⟨a, e1, rfl, hm⟩ := get i D e; rw [at_ i a e1]; exact hg a hm)
      (fun i D e => by obtain ⟨a, e1, rfl, hm⟩ := get i D e; rw [at_ i a e1]; exact ht a hm)
      (fun i D e => by obtain ⟨a, e1, rfl, hm⟩ := get i D e; rw [at_ i a e1]; exact fun hp => he a hm hp)
      (fun i D e _ => rfl)
      (fun i D e => by
        obtain ⟨a, e1, rfl, hm⟩ := get i D e
        rw [at_ i a e1, List.take_add_one, e1, List.filter_append, List.map_append]
        cases hp : p a with
        | true =>
          rw [if_pos rfl]
          congr 1
          simp [hp]
        | false =>
          rw [if_neg Bool.false_ne_true]
          simp [hp]) hs
    rw [List.length_map, List.take_length] at this
    exact this

theorem d_lc {α : Type} {elt : Expr} {ifs : List Expr} {scope : Scope} {own : List (Str × Nat)} {as : List α} {g : α → PyData} {es : List PyData} (p : α → Bool) (v : α → PyData) (T : α → List Sl) (is : List Nat)
    (hes : es = as.map g) (hc : X.calm = true) (hN : X.N.Nodup) (ok : BlkOk X.N X.env.scope scope own)
    (hi : PI X tg iter (tI c ds M es M1)) (his : ∀ i ∈ is, i ∈ own.map (·.2)) (hl : as.length ≤ 90000)
    (hg : ∀ a ∈ as, ∀ (s : Shared) (H : Hp) (C : Addr) (cl : List (Str × Addr)) (fp : List Addr), PG (X.blk s H scope (compEnvC scope cl C X.env) fp) tg (gD c (wipeS ds (own.map (·.2))) M1 (.dat (g a)) (T a) is))
    (ht : ∀ a ∈ as, ∀ (s : Shared) (H : Hp) (C : Addr) (cl : List (Str × Addr)) (fp : List Addr), PTs (X.blk s H scope (compEnvC scope cl C X.env) fp) ifs (tDT c (T a) M1 (p a) M1))
    (he : ∀ a ∈ as, p a = true → ∀ (s : Shared) (H : Hp) (C : Addr) (cl : List (Str × Addr)) (fp : List Addr), PE (X.blk s H scope (compEnvC scope cl C X.env) fp) elt (tD c (T a) M1 (.dat (v a)) M1))
    (hs : ∀ x, foldedSetIterable iter X.env x = pure x := by intro _; rfl) :
    PE X (.ListComp elt [⟨tg, iter, ifs, 0⟩] scope pos) (tD c ds M (.dat (.list ((as.filter p).map v))) M1) := by
  obtain ⟨t, h1, _, h3⟩ := l_lc p v T is hes hc hN ok hi his hl hg ht he hs (X := X) (c := c) (ds := ds) (M := M) (M1 := M1) (pos := pos) (tg := tg) (iter := iter) (elt := elt) (ifs := ifs) (scope := scope) (own := own)
  exact PE.to h1 h3
/-! ### methods of texts -/
theorem d_split {x y : Str} {apos : Pos} (h : PE X a (tD c ds M (S x) M1)) (h' : PE X b (tD c ds M1 (S y) M2)) (hy : (y.length == 0) = false) (hx : x.length ≤ 90000)
    (hs : starEach [b] X.env = [(false, eval b X.env)] := by rfl) (hbase : attributeBase a "split" X.env (eval a X.env) = eval a X.env := by rfl) (hline : (apos.endLine == pos.line) = true := by rfl) :
    PE X (.Call (.Attribute a "split" apos) [b] [] pos) (tD c ds M (.dat (.list ((Txt.split x y).map PyData.str))) M2) :=
  PE.to (pe_split h h' hs hbase hline) fun σ H Q ⟨B, w, s, q⟩ => ⟨B, w, s, fun u B1 H1 g1 s1 => by
    cases s1
    refine ⟨⟨x, rfl⟩, B1, g1.w, s.mono g1.b, fun u2 B2 H2 g2 s2 => ?_⟩
    cases s2
    refine ⟨x, y, rfl, rfl, hy, sz_ok (by omega), fun p hp => ?_⟩
    obtain ⟨g, r⟩ := new_lst g2.w (dpa_ofStrs (Txt.split x y)) hp
    exact q _ _ _ (g1.trans (g2.trans g)) r⟩
theorem d_join {x : Str} {ys : List Str} {apos : Pos} (h : PE X a (tD c ds M (S x) M1)) (h' : PE X b (tD c ds M1 (.dat (.list (ys.map PyData.str))) M2)) (hl : (ys.map (·.length)).sum + ys.length * x.length ≤ 100000)
    (hs : starEach [b] X.env = [(false, eval b X.env)] := by rfl) (hbase : attributeBase a "join" X.env (eval a X.env) = eval a X.env := by rfl) (hline : (apos.endLine == pos.line) = true := by rfl) :
    PE X (.Call (.Attribute a "join" apos) [b] [] pos) (tD c ds M (S (Txt.join x ys)) M2) :=
  PE.to (pe_join h h' hs hbase hline) fun σ H Q ⟨B, w, s, q⟩ => ⟨B, w, s, fun u B1 H1 g1 s1 => by
    cases s1
    refine ⟨⟨x, rfl⟩, B1, g1.w, s.mono g1.b, fun u2 B2 H2 g2 s2 => ?_⟩
    cases s2 with
    | @lst p us _ hb ha =>
      have e := dpa_strs ha
      subst e
      exact ⟨x, p, ys, rfl, rfl, .inl (.inl (.inl (g2.w.b _ _ hb).2.2)), by omega, q _ _ _ (g1.trans g2) (.str _)⟩⟩
theorem d_count {x y : Str} {apos : Pos} (h : PE X a (tD c ds M (S x) M1)) (h' : PE X b (tD c ds M1 (S y) M2))
    (hs : starEach [b] X.env = [(false, eval b X.env)] := by rfl) (hbase : attributeBase a "count" X.env (eval a X.env) = eval a X.env := by rfl) (hline : (apos.endLine == pos.line) = true := by rfl) :
    PE X (.Call (.Attribute a "count" apos) [b] [] pos) (tD c ds M (I (Txt.count x y)) M2) :=
  PE.to (pe_m1 PySem.F.slot_str_count PySem.F.type_str_count mt_count h h' hs hbase hline) fun σ H Q ⟨B, w, s, q⟩ => ⟨B, w, s, fun u B1 H1 g1 s1 => by
    cases s1
    refine ⟨⟨x, rfl⟩, B1, g1.w, s.mono g1.b, fun u2 B2 H2 g2 s2 => ?_⟩
    cases s2
    exact ⟨x, y, rfl, rfl, q _ _ _ (g1.trans g2) (.int _)⟩⟩
end
end Zd
end
/-! ## Z4 -/
section
set_option Elab.async false
set_option linter.all false
set_option maxRecDepth 100000
set_option maxHeartbeats 4000000
/-! Statements, defs, calls, by data. -/
namespace Zd
open PySem PySem.Spec PyProof.Rows L2

inductive Exn where
  | text (n : Int)
  | story
/-- how a block ends -/
inductive Out where
  | nx (ds : List Sl) (M : Mp)
  | rt (d : Sl) (M : Mp)
  | ex (e : Exn) (M : Mp)
def ExK (c : Cg) (E : XK) (M : Mp) (H B : Hp) (M' : Mp) : Exn → Prop
  | .text n => ∀ (d : Addr) (H' B' : Hp), Go c M H B M' H' B' → H' d = some (.xd [(("line" : Str), .int n)]) → E (.ref c.CT) (some d) H'
  | .story => ∀ (H' B' : Hp), Go c M H B M' H' B' → E (.ref c.CS) none H'
def KO (c : Cg) (E : XK) (D : Ends) (M : Mp) (H B : Hp) : Out → Prop
  | .nx ds' M' => ∀ (σ' : L2.St) (B' H' : Hp), Go c M H B M' H' B' → Sls B' ds' σ' → D.nx σ' H'
  | .rt d M' => ∀ (v : V) (B' H' : Hp), Go c M H B M' H' B' → SlV B' d v → D.rt v H'
  | .ex e M' => ExK c E M H B M' e
def tS (c : Cg) (E : XK) (ds : List Sl) (M : Mp) (o : Out) : TS := fun D σ H => ∃ B, Wd c B M H ∧ Sls B ds σ ∧ KO c E D M H B o
section
variable {X : Cx} {c : Cg} {E : XK} {ds ds1 ds2 : List Sl} {M M1 M2 M3 : Mp} {a b e : Expr} {d d1 d2 d3 : Sl} {pos : Pos} {o o1 : Out} {st : Stmt} {rest : List Stmt} {H B H1 B1 : Hp} {D : Ends}
theorem KO.mono (g : Go c M H B M1 H1 B1) (k : KO c E D M H B o) : KO c E D M1 H1 B1 o := by
  cases o with
  | nx ds' M' => exact fun σ' B' H' g' s => k σ' B' H' (g.trans g') s
  | rt d M' => exact fun v B' H' g' s => k v B' H' (g.trans g') s
  | ex e M' =>
    cases e with
    | text n => exact fun d H' B' g' h => k d H' B' (g.trans g') h
    | story => exact fun H' B' g' => k H' B' (g.trans g')
theorem PSs.to {sts : List Stmt} {t t' : TS} (h : PSs X sts t) (i : ∀ D σ H, t' D σ H → t D σ H) : PSs X sts t' := ⟨fun pins s σ H D I hw => h.run pins s σ H D I (i D σ H hw)⟩
theorem PS.to {t t' : TS} (h : PS X st t) (i : ∀ D σ H, t' D σ H → t D σ H) : PS X st t' := ⟨fun pins s σ H D I hw => h.run pins s σ H D I (i D σ H hw)⟩
/-- the rest behind a first statement -/
def Cont (X : Cx) (c : Cg) (E : XK) (rest : List Stmt) (o : Out) : Out → Prop
  | .nx ds' M' => PSs X rest (tS c E ds' M' o)
  | .rt d M' => Out.rt d M' = o
  | .ex e M' => Out.ex e M' = o
theorem Cont.u (h : Cont X c E rest o o1) : ∃ u, PSs X rest u ∧ ∀ (D : Ends) (M : Mp) (H B : Hp), KO c E D M H B o → KO c E { D with nx := u D } M H B o1 := by
  cases o1 with
  | nx ds' M' => exact ⟨_, h, fun D M H B k σ' B' H' g s => ⟨B', g.w, s, k.mono g⟩⟩
  | rt d M' =>
    have h : Out.rt d M' = o := h
    subst h
    exact ⟨_, pss_never, fun D M H B k => k⟩
  | ex e M' =>
    have h : Out.ex e M' = o := h
    subst h
    refine ⟨_, pss_never, fun D M H B k => ?_⟩
    cases e <;> exact k
theorem b_cons (h : PS X st (tS c E ds M o1)) (hr : Cont X c E rest o o1) : PSs X (st :: rest) (tS c E ds M o) := by
  obtain ⟨u, h2, k⟩ := hr.u
  exact PSs.to (pss_cons h h2) fun D σ H ⟨B, w, s, q⟩ => ⟨B, w, s, k D M H B q⟩
theorem b_nil : PSs X [] (tS c E ds M (.nx ds M)) := PSs.to pss_nil fun D σ H ⟨B, w, s, q⟩ => q σ B H (Go.refl w) s
theorem b_cast {sts : List Stmt} (h : PSs X sts (tS c E ds M o1)) (q : o1 = o) : PSs X sts (tS c E ds M o) := q ▸ h
/-! ### single statements -/
theorem s_ret (h : PE X e (tD c ds M d M1)) : PS X (.Return (some e) pos) (tS c E ds M (.rt d M1)) :=
  PS.to (ps_ret h) fun D σ H ⟨B, w, s, q⟩ => ⟨B, w, s, fun v B' H' g sv => q v B' H' g sv⟩
theorem s_retN : PS X (.Return none pos) (tS c E ds M (.rt (.dat .none) M)) :=
  PS.to ps_retN fun D σ H ⟨B, w, s, q⟩ => q .non B H (Go.refl w) .non
theorem s_set (i : Nat) {x : Str} {p' : Pos} (hN : X.N.Nodup) (h : PE X e (tD c ds M d M1)) (hi : X.N[i]? = some x := by rfl) (hx : Loc X.env.scope x := by first | exact Or.inl rfl | exact Or.inr rfl) (hf : X.fn x = true ∨ X.env.scope.names.lookup x = some .local := by first | exact Or.inl rfl | exact Or.inr rfl) (hs : swapsWith e (some (.Name x p')) pos.line X.env = pure false := by rfl) :
    PS X (.Assign [.Name x p'] e pos) (tS c E ds M (.nx (ds.set i d) M1)) :=
  PS.to (ps_set hN hi hx h hs hf) fun D σ H ⟨B, w, s, q⟩ => ⟨B, w, s, fun v B' H' g sv => q _ B' H' g ((s.mono g.b).set sv.o i)⟩
/-- y = [.. for ..] on one line -/
theorem s_lc (i : Nat) {y : Str} {py : Pos} (h : LcOk X c ds M e d M1) (hi : X.N[i]? = some y := by rfl) (hx : X.env.scope.names.lookup y = some .local := by rfl) (hs : swapsWith e (some (.Name y py)) pos.line X.env = pure true := by rfl) : PS X (.Assign [.Name y py] e pos) (tS c E ds M (.nx (ds.set i d) M1)) := by
  obtain ⟨t, _, h2, h3⟩ := h
  exact PS.to (h2 i y py pos hi hx hs) fun D σ H ⟨B, w, s, q⟩ => h3 σ H _ ⟨B, w, s, fun v B' H' g sv => q _ B' H' g ((s.mono g.b).set sv.o i)⟩
theorem lc_cast (h : LcOk X c ds M e d M1) (q : d = d1) : LcOk X c ds M e d1 M1 := q ▸ h
theorem s_asg {tg : Expr} {is : List Nat} (h : PE X e (tD c ds M d M1)) (hg : PG X tg (gD c ds M1 d ds1 is)) (hs : swapsWithSole [tg] e pos.line X.env = pure false := by rfl) (hw : swappedStores [tg] e X.env = pure none := by rfl) (h1 : (assignEach [tg] X.env).map (·.2) = [assign tg X.env] := by rfl) :
    PS X (.Assign [tg] e pos) (tS c E ds M (.nx ds1 M1)) :=
  PS.to (ps_asg h hg hs hw h1) fun D σ H ⟨B, w, s, q⟩ => ⟨B, w, s, fun v B' H' g sv => ⟨B', g.w, s.mono g.b, sv, fun σ' s' _ => q σ' B' H' g s'⟩⟩
theorem s_par (i j : Nat) {x y : Str} {px py pt : Pos} {kt k2 : Nat} {pt2 : Pos} (hN : X.N.Nodup) (h : PA X [a, b] (tDs c ds M [d1, d2] M1)) (hi : X.N[i]? = some x := by rfl) (hj : X.N[j]? = some y := by rfl) (hij : i ≠ j := by decide) (hx : X.env.scope.names.lookup x = some .local := by rfl) (hy : X.env.scope.names.lookup y = some .local := by rfl) (hc : X.calm = true := by rfl)
    (hw : swappedStores [.Tuple [.Name x px, .Name y py] kt pt] (.Tuple [a, b] k2 pt2) X.env = pure (some [x, y]) := by rfl) (hs : swapsWithSole [.Tuple [.Name x px, .Name y py] kt pt] (.Tuple [a, b] k2 pt2) pos.line X.env = pure false := by rfl) :
    PS X (.Assign [.Tuple [.Name x px, .Name y py] kt pt] (.Tuple [a, b] k2 pt2) pos) (tS c E ds M (.nx ((ds.set i d1).set j d2) M1)) :=
  PS.to (ps_par hc hN hi hj hij hx hy h hw hs) fun D σ H ⟨B, w, s, q⟩ => ⟨B, w, s, fun vs B' H' g sv => by
    cases sv with
    | cons s1 s2 =>
      cases s2 with
      | cons s2 s3 =>
        cases s3
        exact ⟨_, _, rfl, q _ B' H' g (((s.mono g.b).set s1.o i).set s2.o j)⟩⟩
theorem s_expr (h : PE X e (tD c ds M d M1)) (hs : swapsWith e none pos.line X.env = pure false := by rfl) : PS X (.Expr e pos) (tS c E ds M (.nx ds M1)) :=
  PS.to (ps_expr h hs) fun D σ H ⟨B, w, s, q⟩ => ⟨B, w, s, fun v B' H' g sv => q σ B' H' g (s.mono g.b)⟩
/-- if: the way that is gone, told by the test -/
theorem s_if {cnd : Expr} {xs ys : List Stmt} {k : Bool} (h : PT X cnd (tDT c ds M k M1)) (h1 : k = true → PSs X xs (tS c E ds M1 o)) (h2 : k = false → PSs X ys (tS c E ds M1 o)) : PS X (.If cnd xs ys pos) (tS c E ds M o) := by
  cases k with
  | true => exact PS.to (ps_if h (h1 rfl) pss_never) fun D σ H ⟨B, w, s, q⟩ => ⟨B, w, s, fun B' H' g => iteT ⟨B', g.w, s.mono g.b, q.mono g⟩⟩
  | false => exact PS.to (ps_if h pss_never (h2 rfl)) fun D σ H ⟨B, w, s, q⟩ => ⟨B, w, s, fun B' H' g => iteF ⟨B', g.w, s.mono g.b, q.mono g⟩⟩
/-- if, then what follows -/
theorem b_if {cnd : Expr} {xs ys : List Stmt} {k : Bool} (h : PT X cnd (tDT c ds M k M1)) (h1 : k = true → ∃ o1, PSs X xs (tS c E ds M1 o1) ∧ Cont X c E rest o o1) (h2 : k = false → ∃ o1, PSs X ys (tS c E ds M1 o1) ∧ Cont X c E rest o o1) :
    PSs X (.If cnd xs ys pos :: rest) (tS c E ds M o) := by
  cases k with
  | true =>
    obtain ⟨o1, h3, h4⟩ := h1 rfl
    exact b_cons (s_if h (fun _ => h3) (fun z => by cases z)) h4
  | false =>
    obtain ⟨o1, h3, h4⟩ := h2 rfl
    exact b_cons (s_if h (fun z => by cases z) (fun _ => h3)) h4
/-- a guard: if it holds, the block ends there -/
theorem b_guard {cnd : Expr} {xs : List Stmt} {k : Bool} (h : PT X cnd (tDT c ds M k M1)) (h1 : k = true → PSs X xs (tS c E ds M1 o)) (hf : k = true → ∀ ds' M', o ≠ .nx ds' M') (h2 : k = false → PSs X rest (tS c E ds M1 o)) : PSs X (.If cnd xs [] pos :: rest) (tS c E ds M o) :=
  b_if h (fun z => ⟨o, h1 z, by
    cases o with
    | nx ds' M' => exact absurd rfl (hf z ds' M')
    | rt d M' => exact rfl
    | ex e M' => exact rfl⟩) fun z => ⟨_, b_nil, h2 z⟩
/-! ### a mutable list's item; an object's attributes -/
theorem slvs_set {B : Hp} {xs : List Sl} {us : List V} {d : Sl} {v : V} (h : SlVs B xs us) (r : SlV B d v) : ∀ j : Nat, SlVs B (xs.set j d) (us.set j v) := by
  induction h with
  | nil => intro j; exact .nil
  | cons h1 h2 ih =>
    intro j
    cases j with
    | zero => exact .cons r h2
    | succ j => exact .cons h1 (ih j)
theorem s_setM {r : Addr} {xs : List Sl} {i : Int} {j : Nat} {p' : Pos} (h : PE X e (tD c ds M d M1)) (ha : PE X a (tD c ds M1 (.raw (.ref r)) M1)) (hb : PE X b (tD c ds M1 (I i) M1)) (hr : M1 r = some (.lst xs)) (hj : ixN xs.length i = some j)
    (hsub : ∀ v, assign (.Subscript a b p') X.env v = (do
      let ov ← holding [v] (eval a X.env)
      let iv ← holding [v, ov] (eval b X.env)
      standAt p'
      holding [v, ov, iv] (setItem ov iv v)
      release [v, ov, iv] []) := by intro _; rfl)
    (hs : swapsWithSole [.Subscript a b p'] e pos.line X.env = pure false := by rfl) (hw : swappedStores [.Subscript a b p'] e X.env = pure none := by rfl) (h1 : (assignEach [.Subscript a b p'] X.env).map (·.2) = [assign (.Subscript a b p') X.env] := by rfl) :
    PS X (.Assign [.Subscript a b p'] e pos) (tS c E ds M (.nx ds (updM M1 r (.lst (xs.set j d))))) :=
  PS.to (ps_asg h (pg_sub ha hb set_list hsub) hs hw h1) fun D σ H ⟨B, w, s, q⟩ => ⟨B, w, s, fun v B1 H1 g1 s1 => ⟨B1, g1.w, s.mono g1.b, fun u B2 H2 g2 s2 => ⟨B2, g2.w, (s.mono g1.b).mono g2.b, fun u' B3 H3 g3 s3 => by
    cases s3
    obtain rfl : u = .ref r := s2
    obtain ⟨o, mr, ho⟩ := g3.w.m r _ hr
    cases mr with
    | @lst _ us sv =>
      refine ⟨r, us, i, j, rfl, rfl, ho, by rw [← sv.len]; exact hj, ?_⟩
      exact q σ _ _ (g1.trans (g2.trans (g3.trans (Go.set g3.w hr (.lst (slvs_set sv ((s1.mono g2.b).mono g3.b) j)))))) (((s.mono g1.b).mono g2.b).mono g3.b)⟩⟩⟩
def putS (f : Str) (d : Sl) : List (Str × Sl) → List (Str × Sl)
  | [] => [(f, d)]
  | (g, x) :: r => if g = f then (g, d) :: r else (g, x) :: putS f d r
abbrev FsR (B : Hp) : List (Str × Sl) → List (Str × V) → Prop := Paired fun (p : Str × Sl) (q : Str × V) => p.1 = q.1 ∧ SlV B p.2 q.2
theorem fsR_put {B : Hp} {f : Str} {d : Sl} {v : V} (r : SlV B d v) : ∀ {fs : List (Str × Sl)} {gs : List (Str × V)}, FsR B fs gs → FsR B (putS f d fs) (putF f v gs)
  | _, _, .nil => .cons ⟨rfl, r⟩ .nil
  | (g, x) :: fs, (g', y) :: gs, .cons h t => by
    obtain ⟨h1, h2⟩ := h
    have h1 : g = g' := h1
    subst h1
    unfold putS putF
    by_cases e : g = f
    · rw [if_pos e, if_pos e]
      exact .cons ⟨rfl, r⟩ t
    · rw [if_neg e, if_neg e]
      exact .cons ⟨rfl, h2⟩ (fsR_put r t)
theorem fsR_get {B : Hp} {f : Str} {d : Sl} : ∀ {fs : List (Str × Sl)} {gs : List (Str × V)}, FsR B fs gs → fs.lookup f = some d → ∃ v, gs.lookup f = some v ∧ SlV B d v
  | _, _, .nil, e => by cases e
  | (g, x) :: fs, (g', y) :: gs, .cons h t, e => by
    obtain ⟨h1, h2⟩ := h
    have h1 : g = g' := h1
    subst h1
    cases q : f == g with
    | true =>
      rw [List.lookup_cons, q] at e
      cases e
      exact ⟨y, by rw [List.lookup_cons, q], h2⟩
    | false =>
      rw [List.lookup_cons, q] at e
      obtain ⟨v, a, b⟩ := fsR_get t e
      exact ⟨v, by rw [List.lookup_cons, q]; exact a, b⟩
theorem fsR_none {B : Hp} {f : Str} : ∀ {fs : List (Str × Sl)} {gs : List (Str × V)}, FsR B fs gs → fs.lookup f = none → gs.lookup f = none
  | _, _, .nil, _ => rfl
  | (g, x) :: fs, (g', y) :: gs, .cons h t, e => by
    obtain ⟨h1, h2⟩ := h
    have h1 : g = g' := h1
    subst h1
    cases q : f == g with
    | true =>
      rw [List.lookup_cons, q] at e
      cases e
    | false =>
      rw [List.lookup_cons, q] at e
      rw [List.lookup_cons, q]
      exact fsR_none t e
theorem d_fld {t C dx : Addr} {fs : List (Str × Sl)} {f : Str} (h : PE X e (tD c ds M (.raw (.ref t)) M1)) (ht : M1 t = some (.ins C dx fs)) (hl : fs.lookup f = some d) (cl : Cls c.K C) (n : NoAttr c.K C f) (hb : attributeBase e f X.env (eval e X.env) = eval e X.env := by rfl) (hK : X.K = c.K := by rfl) :
    PE X (.Attribute e f pos) (tD c ds M d M1) :=
  PE.to (pe_fld h hb) fun σ H Q ⟨B, w, s, q⟩ => ⟨B, w, s, fun v B1 H1 g1 s1 => by
    obtain rfl : v = .ref t := s1
    obtain ⟨o, mr, ho⟩ := g1.w.m t _ ht
    cases mr with
    | @ins _ _ _ gs r =>
      obtain ⟨u, e1, e2⟩ := fsR_get r hl
      exact ⟨t, C, dx, gs, u, rfl, ho, by rw [hK]; exact cl, by rw [hK]; exact n, e1, q u B1 H1 g1 e2⟩⟩
theorem s_fld {t C dx : Addr} {fs : List (Str × Sl)} {f : Str} {p' : Pos} (h : PE X e (tD c ds M d M1)) (ha : PE X a (tD c ds M1 (.raw (.ref t)) M1)) (ht : M1 t = some (.ins C dx fs)) (hl : fs.length < 100) (cl : Cls c.K C) (n : NoAttr c.K C f)
    (hs : swapsWith e (some (.Attribute a f p')) pos.line X.env = pure false := by rfl) (hK : X.K = c.K := by rfl) : PS X (.Assign [.Attribute a f p'] e pos) (tS c E ds M (.nx ds (updM M1 t (.ins C dx (putS f d fs))))) :=
  PS.to (ps_fld ha h hs) fun D σ H ⟨B, w, s, q⟩ => ⟨B, w, s, fun v B1 H1 g1 s1 => ⟨B1, g1.w, s.mono g1.b, fun u B2 H2 g2 s2 => by
    obtain rfl : u = .ref t := s2
    obtain ⟨o, mr, ho⟩ := g2.w.m t _ ht
    cases mr with
    | @ins _ _ _ gs r =>
      have len : fs.length = gs.length := Paired.length r
      exact ⟨t, C, dx, gs, rfl, ho, by rw [hK]; exact cl, by rw [hK]; exact n, by omega, q σ _ _ (g1.trans (g2.trans (Go.set g2.w ht (.ins (fsR_put (s1.mono g2.b) r))))) ((s.mono g1.b).mono g2.b)⟩⟩⟩
/-- tuple += tuple -/
theorem iop_catT : OpR X (inplaceOp .Add) (rCatA X.K) := by
  intro pins s σ H x y v u Q I rx ry h
  obtain ⟨p, r, xs, ys, rfl, rfl, ha, hb, hz, q0, q1, q2⟩ := h
  cases rx
  cases ry
  obtain ⟨us, r1, p1, _⟩ := I.tuple ha
  obtain ⟨ws, r2, p2, _⟩ := I.tuple hb
  have l1 := r1.length
  have l2 := r2.length
  have T1 := p1.typeIs
  have T2 := p2.typeIs
  obtain ⟨⟨k1, dd1, dt1, z1⟩, ho, hc, n1, hd⟩ := id p1
  obtain ⟨⟨k2, dd2, dt2, z2⟩, ho2, hc2, n2, hd2⟩ := id p2
  simp only at hc hd hc2 hd2
  subst hc hd hc2 hd2
  have hno : typeLookup (.type "tuple") (dunderI "add") = pure none := by kernel_rfl
  refine wpAny_inplaceOp_concat T1 T2 hno noFill_tuple_add seq_tuple_add ?_
  by_cases e1 : us = []
  · subst e1
    have ex : xs = [] := List.eq_nil_of_length_eq_zero l1
    exact call_meets PySem.F.slot_tuple_add T1 PySem.F.entry_tuple_add (PySem.F.args_tuple_add_2 _ _) (tuple_addW0 p r ([] : List Value).toArray ws.toArray n1 n2 dd1 dd2 z1 z2 (by simp)) ⟨ho, ho2, .ref r, H, I, rfl, q0 ex⟩
  · have nx : xs ≠ [] := fun z => e1 (by rw [z] at l1; exact List.eq_nil_of_length_eq_zero l1.symm)
    by_cases e2 : ws = []
    · have ey : ys = [] := by rw [e2] at l2; exact List.eq_nil_of_length_eq_zero l2
      exact call_meets PySem.F.slot_tuple_add T1 PySem.F.entry_tuple_add (PySem.F.args_tuple_add_2 _ _) (tuple_addW1 p r us.toArray ws.toArray n1 n2 dd1 dd2 z1 z2 (by simpa using e1) (by simp [e2])) ⟨ho, ho2, .ref p, H, I, rfl, q1 nx ey⟩
    · have ny : ys ≠ [] := fun z => e2 (by rw [z] at l2; exact List.eq_nil_of_length_eq_zero l2.symm)
      refine call_meets PySem.F.slot_tuple_add T1 PySem.F.entry_tuple_add (PySem.F.args_tuple_add_2 _ _) (tuple_addW2 p r us.toArray ws.toArray n1 n2 dd1 dd2 z1 z2 (by simpa using e1) (by simpa using e2) (by rw [List.size_toArray, List.size_toArray]; omega)) ⟨ho, ho2, ?_⟩
      have ea : us.toArray ++ ws.toArray = (us ++ ws).toArray := by simp
      rw [ea]
      have hn : H s.heap.objs.size = none := I.hok.fresh (Nat.le_refl _)
      refine ⟨.ref s.heap.objs.size, _, I.laid (t' := s.toks) (o := .tup (xs ++ ys)) (fun b u e => Heap.get?_push_of_some _ e) (Nat.le_refl _) ⟨by rw [List.length_append]; exact hz, _, r1.append r2, ⟨_, Heap.get?_push_size _ rfl, rfl, _, rfl⟩⟩, rfl, q2 nx ny _ hn⟩
/-- self.f += tuple -/
theorem s_fldaug {t C dx : Addr} {fs : List (Str × Sl)} {f : Str} {xs ys : List PyData} {p' : Pos} (ha : PE X a (tD c ds M (.raw (.ref t)) M)) (h : PE X e (tD c ds M (.dat (.tuple ys)) M)) (ht : M t = some (.ins C dx fs)) (hv : fs.lookup f = some (.dat (.tuple xs))) (hl : fs.length < 100) (hz : xs.length + ys.length ≤ 90000) (cl : Cls c.K C) (n : NoAttr c.K C f)
    (hK : X.K = c.K := by rfl) : PS X (.AugAssign (.Attribute a f p') .Add e pos) (tS c E ds M (.nx ds (updM M t (.ins C dx (putS f (.dat (.tuple (xs ++ ys))) fs))))) :=
  PS.to (ps_fldaug ha h (rd := rCatA X.K) (fun pins s σ H x y u v Q I rx ry q => iop_catT pins s σ H x y u v Q I rx ry q)) fun D σ H ⟨B, w, s, q⟩ => ⟨B, w, s, fun u B1 H1 g1 s1 => by
    obtain rfl : u = .ref t := s1
    obtain ⟨o, mr, ho⟩ := g1.w.m t _ ht
    cases mr with
    | @ins _ _ _ gs r =>
      obtain ⟨v, e1, e2⟩ := fsR_get r hv
      have len : fs.length = gs.length := Paired.length r
      refine ⟨t, C, dx, gs, v, rfl, ho, by rw [hK]; exact cl, by rw [hK]; exact n, e1, B1, g1.w, s.mono g1.b, fun v' B2 H2 g2 s2 => ?_⟩
      have e3 := dp_mono g2.b _ _ e2
      cases e3 with
      | @tup pa us _ hb ra =>
        cases s2 with
        | @tup pb vs _ hb' rb =>
          have k1 := dpa_len ra
          have k2 := dpa_len rb
          have fin : ∀ (p : Addr) (B3 H3 : Hp), Go c M H2 B2 M H3 B3 → SlV B3 (.dat (.tuple (xs ++ ys))) (.ref p) → ∃ dx' fs', H3 t = some (.ins C dx' fs') ∧ fs'.length < 1000 ∧ D.nx σ (upd H3 t (.ins C dx' (putF f (.ref p) fs'))) := fun p B3 H3 g3 s3 => by
            obtain ⟨o3, mr3, ho3⟩ := g3.w.m t _ ht
            cases mr3 with
            | @ins _ _ _ gs3 r3 =>
              have len3 : fs.length = gs3.length := Paired.length r3
              exact ⟨dx, gs3, ho3, by omega, q σ _ _ (g1.trans (g2.trans (g3.trans (Go.set g3.w ht (.ins (fsR_put s3 r3)))))) (((s.mono g1.b).mono g2.b).mono g3.b)⟩
          refine ⟨pa, pb, us, vs, rfl, rfl, .inl (.inl (g2.w.b _ _ hb).2.2), .inl (.inl (g2.w.b _ _ hb').2.2), by rw [k1, k2]; exact sz_ok (by omega), fun z => ?_, fun z z' => ?_, fun z z' p hp => ?_⟩
          · have ex : xs = [] := by rw [z] at k1; exact List.eq_nil_of_length_eq_zero k1.symm
            subst ex
            exact fin pb B2 H2 (Go.refl g2.w) (.tup hb' rb)
          · have ey : ys = [] := by rw [z'] at k2; exact List.eq_nil_of_length_eq_zero k2.symm
            subst ey
            exact fin pa B2 H2 (Go.refl g2.w) (by rw [List.append_nil]; exact .tup hb ra)
          · obtain ⟨g3, s3⟩ := new_tup g2.w (dpa_app ra rb) hp
            exact fin p _ _ g3 s3⟩
/-! ### for -/
theorem s_for {tg iter : Expr} {body : List Stmt} (es : List PyData) (Si : Nat → List Sl) (Mi : Nat → Mp) (T : Nat → List Sl) (is : List Nat) (oi : Nat → Out) (live : Nat → Prop)
    (hp : PassesOwn (model X.prog X.w) X.A X.env X.xe) (hc : X.calm = true) (hi : PI X tg iter (tI c ds M es (Mi 0))) (hS : Si 0 = ds) (l0 : live 0)
    (hg : ∀ (i : Nat) (D : PyData), live i → es[i]? = some D → PG X tg (gD c (Si i) (Mi i) (.dat D) (T i) is))
    (hb : ∀ (i : Nat) (D : PyData), live i → es[i]? = some D → PSs X body (tS c E (T i) (Mi i) (oi i)))
    (hn : ∀ (i : Nat) (D : PyData), live i → es[i]? = some D → (oi i = .nx (Si (i + 1)) (Mi (i + 1)) ∧ live (i + 1)) ∨ (oi i = o ∧ ∀ ds' M', o ≠ .nx ds' M'))
    (hd : live es.length → o = .nx (Si es.length) (Mi es.length)) (hs : ∀ x, foldedSetIterable iter X.env x = pure x := by intro _; rfl) : PS X (.For tg iter body [] pos) (tS c E ds M o) := by
  have G : PG X tg (fun x σ H Q => ∃ i D, live i ∧ es[i]? = some D ∧ gD c (Si i) (Mi i) (.dat D) (T i) is x σ H Q) := ⟨fun pins s σ H x u Q I r ⟨i, D, l, e, hw⟩ => (hg i D l e).run pins s σ H x u Q I r hw⟩
  have Bo : PSs X body (fun D' σ H => ∃ i D, live i ∧ es[i]? = some D ∧ tS c E (T i) (Mi i) (oi i) D' σ H) := ⟨fun pins s σ H D' I ⟨i, D, l, e, hw⟩ => (hb i D l e).run pins s σ H D' I hw⟩
  refine PS.to (ps_for hp hc hi G Bo hs) fun D' σ H ⟨B, w, s, q⟩ => ⟨B, w, s, fun J B1 H1 g1 src => ?_⟩
  refine ⟨fun i m σ H => m + i = es.length ∧ live i ∧ ∃ B2, Go c (Mi 0) H1 B1 (Mi i) H B2 ∧ Sls B2 (Si i) σ, ⟨es.length, Nat.add_zero _, l0, B1, Go.refl g1.w, by rw [hS]; exact s.mono g1.b⟩, fun i m σ2 H2 hW => ?_⟩
  obtain ⟨hm, l, B2, g2, s2⟩ := hW
  obtain ⟨st, tn⟩ := src (Mi i) H2 B2 g2
  by_cases hi' : i = es.length
  · subst hi'
    refine .inl ⟨st, ?_⟩
    have q' := q
    rw [hd l] at q'
    exact q' σ2 B2 H2 (g1.trans g2) s2
  · have hlt : i < es.length := by omega
    have e : es[i]? = some es[i] := List.getElem?_eq_getElem hlt
    obtain ⟨go, yl⟩ := tn i _ e
    refine .inr ⟨go, fun σ' H' => live (i + 1) ∧ ∃ B2, Go c (Mi 0) H1 B1 (Mi (i + 1)) H' B2 ∧ Sls B2 (Si (i + 1)) σ', fun σ' H' hN' => ⟨m - 1, by omega, by omega, hN'⟩, fun x H3 hy => ?_⟩
    obtain ⟨B3, g3, rx⟩ := yl x H3 hy
    refine ⟨i, _, l, e, B3, g3.w, s2.mono g3.b, rx, fun σ4 s4 _ => ⟨i, _, l, e, B3, g3.w, s4, ?_⟩⟩
    rcases hn i _ l e with ⟨eo, l'⟩ | ⟨eo, ne⟩
    · rw [eo]
      exact fun σ5 B5 H5 g5 s5 => ⟨l', B5, g2.trans (g3.trans g5), s5⟩
    · rw [eo]
      have k := KO.mono (g1.trans (g2.trans g3)) q
      cases o with
      | nx ds' M' => exact absurd rfl (ne ds' M')
      | rt d M' => exact k
      | ex ee M' => cases ee <;> exact k
/-! ### defs and calls -/
def spD (c : Cg) (R : List Sl → Mp → Out → Prop) : Sp := fun vs H Q E => ∃ (B : Hp) (M : Mp) (as : List Sl) (o : Out), Wd c B M H ∧ SlVs B as vs ∧ R as M o ∧ KO c E { nx := fun _ _ => False, rt := Q } M H B o
/-- what a def of the top is worth -/
structure Df (P : Program) (w : World) (c : Cg) (mg : Str → Option Value) (base : Heap) (x : Str) (k : Nat) (n : Nat) (R : List Sl → Mp → Out → Prop) : Prop where
  ok : ∃ (f : Addr) (fd : FuncData) (ps : List Str), FnOk P w c.K mg base (L2.CX P w) k f fd ps (spD c R) ∧ mg x = some (.ref f) ∧ PySem.W.keepIn c.K (.ref f) = true ∧ L2.Binds c.K fd ps []
theorem fn_def {P : Program} {w : World} {mg : Str → Option Value} {base : Heap} {x qual : Str} {sd : Stmt} {f : Addr} {fd : FuncData} {N ps : List Str} {k : Nat} {R : List Sl → Mp → Out → Prop} (F : Fun c.K x qual sd f fd) (S : FnScope N ps (defScope sd)) (hl : ∀ as M o, R as M o → as.length = ps.length)
    (body : ∀ (as : List Sl) (M : Mp) (o : Out), R as M o → ∀ (cdv : Value) (A : Around) (outer : List Env) (s : Shared) (H : Hp) (E : XK), Room k (A.deeper (envOfC qual (defScope sd) s.heap.objs.size f cdv)) →
      ∃ o1, PSs (cxOf (L2.CX P w) P w c.K mg base N qual (defScope sd) f cdv A outer s H E) (defBody sd) (tS c E (as ++ List.replicate (N.length - as.length) .no) M o1) ∧ (o1 = o ∨ ∃ ds' M', o1 = .nx ds' M' ∧ o = .rt (.dat .none) M')) :
    FnOk P w c.K mg base (L2.CX P w) (k + 1) f fd ps (spD c R) := by
  refine F.okX S (fun vs H Q E h => ?_) (fun cdv A outer s H vs Q E hr h => ?_)
  · obtain ⟨B, M, as, o, _, sv, hR, _⟩ := h
    rw [← sv.len, hl as M o hR]
  · obtain ⟨B, M, as, o, w, sv, hR, ko⟩ := h
    obtain ⟨o1, hb, ho⟩ := body as M o hR cdv A outer s H E hr
    refine ⟨_, hb, B, w, ?_, ?_⟩
    · have st := Sls.start (N.length - as.length) sv
      have e : L2.start N vs = vs.map some ++ List.replicate (N.length - as.length) none := by unfold L2.start; rw [← sv.len]
      rw [e]
      exact st
    · rcases ho with e | ⟨ds', M', e1, e2⟩
      · subst e
        cases o1 with
        | nx ds' M' => exact fun σ' B' H' g s => (ko σ' B' H' g s).elim
        | rt d M' => exact ko
        | ex e M' => cases e <;> exact ko
      · subst e1 e2
        exact fun σ' B' H' g s => ko .non B' H' g .non
/-- a call that raises nothing -/
theorem d_call {x : Str} {p : Pos} {k n m : Nat} {R : List Sl → Mp → Out → Prop} {es : List Expr} {as : List Sl} (F : Df X.prog X.w c X.mg X.base x k n R) (hr : Room m X.A) (ha : PA X (e :: es) (tDs c ds M as M1)) (hR : R as M1 (.rt d M2)) (hm : k ≤ m := by decide) (hg : Gl X x := by rfl) (hdb : (x == ("__debug__" : Str)) = false := by decide)
    (he : starEach (e :: es) X.env = (false, eval e X.env) :: starEach es X.env := by rfl) (hpl : (backTo pos (starEach es X.env)).any (·.1) = false := by rfl) (hK : X.K = c.K := by rfl) : PE X (.Call (.Name x p) (e :: es) [] pos) (tD c ds M d M2) := by
  obtain ⟨f, fd, ps, F, mgx, kp, bi⟩ := F.ok
  rw [← hK] at F kp bi
  exact PE.to (pe_call F (hr.mono hm) hg mgx kp bi .nil L2.passL ha hdb he hpl) fun σ H Q ⟨B, w, s, q⟩ => ⟨B, w, s, fun vs B1 H1 g1 s1 => ⟨B1, M1, as, _, g1.w, by rw [List.append_nil]; exact s1, hR, fun v B2 H2 g2 s2 => q v B2 H2 (g1.trans g2) s2⟩⟩
/-- the readings of a call that may raise -/
def tCX (c : Cg) (E : XK) (ds : List Sl) (M : Mp) (o : Out) : TE := fun σ H Q => ∃ B, Wd c B M H ∧ Sls B ds σ ∧ KO c E { nx := fun _ _ => False, rt := Q } M H B o
theorem x_call {x : Str} {p : Pos} {k n m : Nat} {R : List Sl → Mp → Out → Prop} {es : List Expr} {as : List Sl} (F : Df X.prog X.w c X.mg X.base x k n R) (hr : Room m X.A) (hx : Passes (L2.CX X.prog X.w) X E) (ha : PA X (e :: es) (tDs c ds M as M1)) (hR : R as M1 o) (hm : k ≤ m := by decide) (hg : Gl X x := by rfl) (hdb : (x == ("__debug__" : Str)) = false := by decide)
    (he : starEach (e :: es) X.env = (false, eval e X.env) :: starEach es X.env := by rfl) (hpl : (backTo pos (starEach es X.env)).any (·.1) = false := by rfl) (hK : X.K = c.K := by rfl) : PE X (.Call (.Name x p) (e :: es) [] pos) (tCX c E ds M o) := by
  obtain ⟨f, fd, ps, F, mgx, kp, bi⟩ := F.ok
  rw [← hK] at F kp bi
  exact PE.to (pe_call F (hr.mono hm) hg mgx kp bi .nil hx ha hdb he hpl) fun σ H Q ⟨B, w, s, q⟩ => ⟨B, w, s, fun vs B1 H1 g1 s1 => ⟨B1, M1, as, _, g1.w, by rw [List.append_nil]; exact s1, hR, q.mono g1⟩⟩
theorem s_exprX (h : PE X e (tCX c E ds M o)) (ho : (∃ d M', o = .rt d M' ∧ o1 = .nx ds M') ∨ (∃ x M', o = .ex x M' ∧ o1 = o)) (hs : swapsWith e none pos.line X.env = pure false := by rfl) : PS X (.Expr e pos) (tS c E ds M o1) :=
  PS.to (ps_expr h hs) fun D σ H ⟨B, w, s, q⟩ => ⟨B, w, s, by
    rcases ho with ⟨d, M', e1, e2⟩ | ⟨x, M', e1, e2⟩
    · subst e1 e2
      exact fun v B' H' g sv => q σ B' H' g (s.mono g.b)
    · subst e2
      subst e1
      cases x <;> exact q⟩
theorem s_setX (i : Nat) {x : Str} {p' : Pos} (hN : X.N.Nodup) (h : PE X e (tCX c E ds M o)) (ho : (∃ d M', o = .rt d M' ∧ o1 = .nx (ds.set i d) M') ∨ (∃ x M', o = .ex x M' ∧ o1 = o)) (hi : X.N[i]? = some x := by rfl) (hx : Loc X.env.scope x := by first | exact Or.inl rfl | exact Or.inr rfl) (hf : X.fn x = true ∨ X.env.scope.names.lookup x = some .local := by first | exact Or.inl rfl | exact Or.inr rfl)
    (hs : swapsWith e (some (.Name x p')) pos.line X.env = pure false := by rfl) : PS X (.Assign [.Name x p'] e pos) (tS c E ds M o1) :=
  PS.to (ps_set hN hi hx h hs hf) fun D σ H ⟨B, w, s, q⟩ => ⟨B, w, s, by
    rcases ho with ⟨d, M', e1, e2⟩ | ⟨x, M', e1, e2⟩
    · subst e1 e2
      exact fun v B' H' g sv => q _ B' H' g ((s.mono g.b).set sv.o i)
    · subst e2
      subst e1
      cases x <;> exact q⟩
theorem s_retX (h : PE X e (tCX c E ds M o)) (hn : ∀ ds' M', o ≠ .nx ds' M') : PS X (.Return (some e) pos) (tS c E ds M o) :=
  PS.to (ps_ret h) fun D σ H ⟨B, w, s, q⟩ => ⟨B, w, s, by
    cases o with
    | nx ds' M' => exact absurd rfl (hn ds' M')
    | rt d M' => exact q
    | ex x M' => cases x <;> exact q⟩
end
end Zd
end
/-! ## Z5 -/
section
set_option Elab.async false
set_option linter.all false
set_option maxRecDepth 100000
set_option maxHeartbeats 4000000
/-! all( .. for .. in ..): generator expressions over any source. -/
namespace Zd
open PySem PySem.Spec PyProof.Rows L2
section
variable {X : Cx} {pins : List (Addr × Obj)} {σ : L2.St} {H : Hp} {s : Shared}
/-- what the iterator was made of: the state s1 that is told, its own cells behind it -/
structure GSrc (X : Cx) (pins : List (Addr × Obj)) (σ : L2.St) (P : Addr) (s2 : Shared) (H1 : Hp) (s1 : Shared) : Prop where
  inv : Inv X pins σ H1 s1
  tab : GxR.TabG H1 P
  eq : ∃ h2 t2, s2 = { s1 with heap := h2, toks := t2 }
  keep : ∀ b o, s1.heap.get? b = some o → s2.heap.get? b = some o
  sz : s1.heap.objs.size ≤ s2.heap.objs.size
/-- the generator's own scope, names bound xs -/
structure GSc (env : Env) (scope : Scope) : Prop where
  kind : scope.kind = .function
  co : scope.isCoroutine = false
  cell : ∀ y ∈ scope.names, y.2 ≠ .cell
  dot : scope.names.lookup (".0" : Str) = some NameKind.local
  free : ∀ y ∈ scope.names, y.2 = .free → ∃ c, env.cells.lookup y.1 = some c
/-- the generator, ready -/
def ReadyG (X : Cx) (pins : List (Addr × Obj)) (σ : L2.St) (H1 : Hp) (P : Addr) (n : Nat) (pb : Nat → Bool) (g : Addr) (s5 : Shared) : Prop :=
  ∃ (fp wr : List Addr) (G : Array GenState → Array GenState → Prop) (F : Nat → Value → Prop) (St : Nat → Shared → Prop),
    WalksS X.prog X.w X.A.in1 g fp wr G n F St ∧ St 0 s5 ∧ TruthOf X.prog X.w X.A.in1 F pb ∧ ∀ s', Moved wr G s5 s' → ∃ H2, GxR.Tabbed P H1 H2 ∧ Inv X pins σ H2 s'
theorem truth_Fn {X : Cx} {pb : Nat → Bool} {n : Nat} : TruthOf X.prog X.w X.A.in1 (fun j y => ∃ i, (passing (fun _ => true) n 0)[j]? = some i ∧ y = .bool (pb i)) pb := by
  intro j y sj Qj Ej hy hQj
  obtain ⟨i, hij, rfl⟩ := hy
  rw [GxR.passing_true] at hij
  obtain ⟨hj, ej⟩ := List.getElem?_eq_some_iff.mp hij
  rw [List.getElem_range] at ej
  subst ej
  exact wpAny_truthy_bool hQj
/-- the code object of the generator, found or made; then what is wanted at the builtins -/
theorem gen_code {c P : Addr} {scope : Scope} {gpos : Pos} {q : Str} {Qb : Value → Addr → Shared → Prop} {H1 : Hp} {s1 s2 : Shared} (TB : GxR.TabB X.base X.mg c P) (hcode : X.env.code = .ref c) (S : GSrc X pins σ P s2 H1 s1)
    (h : ∀ (code : Value) (h3 : Heap) (tk : Nat) (ps ps' : Array Value), H1 P = some (.tbl ps) → Heap.ExtBut P s2.heap h3 → s2.heap.objs.size ≤ h3.objs.size → h3.get? P = some { cls := .none, data := .fields ps' } → (∃ more, ps' = ps ++ more) → TriplesOk ps'.toList → h3.NoLimit → cStatics < s1.heap.objs.size → P < s1.heap.objs.size → Qb code builtinsNs { s2 with heap := h3, toks := tk }) :
    s2.heap.NoLimit ∧ wpAny (model X.prog X.w) X.A (genexprCode X.env gpos q scope) (fun cv s₃ => wpAny (model X.prog X.w) X.A (builtinsFor X.env.globals X.env.builtins) (Qb cv) X.xe s₃) X.xe s2 := by
  obtain ⟨I1, ⟨ps, hP, ht⟩, ⟨h2, t2, rfl⟩, keep, sz⟩ := S
  have hPs : s1.heap.get? P = some { cls := .none, data := .fields ps } := I1.hok P _ hP
  have hP2 := keep _ _ hPs
  have cd : PySem.W.CodeHd h2 c P := TB.code.keeps fun b u e => keep _ _ (I1.bk b u e)
  have lim2 : h2.NoLimit := I1.nolimit.keeps keep
  have hcl : cStatics < s1.heap.objs.size := let ⟨_, hns, _⟩ := I1.nolimit; hns.lt
  have hcP : cStatics ≠ P := fun e => by
    obtain ⟨_, hns, _⟩ := I1.nolimit
    obtain ⟨o', es, ep, ho, hd, _⟩ := hns
    rw [e, hPs] at ho
    cases ho
    cases hd
  have fin : ∀ (code : Value) (h3 : Heap) (tk : Nat) (ps' : Array Value), Heap.ExtBut P h2 h3 → h2.objs.size ≤ h3.objs.size → h3.get? P = some { cls := .none, data := .fields ps' } → (∃ more, ps' = ps ++ more) → TriplesOk ps'.toList →
      wpAny (model X.prog X.w) X.A (builtinsFor X.env.globals X.env.builtins) (Qb code) X.xe { { s1 with heap := h2, toks := t2 } with heap := h3, toks := tk } := by
    intro code h3 tk ps' hx hsz hP3 hmore ht3
    obtain ⟨bm, ob, e1, e2, e3, e4, e5, e6, e7, e8⟩ := TB.bm
    have keep3 : ∀ b u, b ≠ P → s1.heap.get? b = some u → h3.get? b = some u := fun b u hb e => hx b u hb (keep _ _ e)
    exact wpAny_builtinsFor (m := X.mg) (by rw [I1.ok.glob]; exact (((I1.mod.glob.keeps I1.bk).keeps keep).extBut hx TB.gP)) e1 e2 (keep3 _ _ e4 (I1.bk _ _ e5)) e6 e7 e8
      (h code h3 tk ps ps' hP hx hsz hP3 hmore ht3 (lim2.extBut hx hcP) hcl (Heap.lt_size hPs))
  refine ⟨lim2, ?_⟩
  cases hf : codeAmong gpos ps.toList with
  | none =>
    refine wpAny_genexprCodeX hcode (cd.code hP2 ht) (cd.tab hP2) hf fun c' h' tk hx hge hlt hco' _ htab' _ => ?_
    obtain ⟨o1, vs, f1, tf, fl, tg, inF, tx, tt, op, _, _, _, _, _, _, _, _, _, htr, _⟩ := hco'
    exact fin (.ref c') h' tk _ hx (Nat.le_trans hge (Nat.le_of_lt hlt)) htab'.2 ⟨_, rfl⟩ htr
  | some cv =>
    refine wpAny_genexprCode_hit hcode (cd.code hP2 ht) hf ?_
    exact fin cv h2 t2 ps (Heap.ExtBut.refl _ _) (Nat.le_refl _) hP2 ⟨#[], by simp⟩ ht

/-- what an element's test finds: the generator's frame, all that stood before -/
structure GEl (X : Cx) (P : Addr) (scope : Scope) (s1 : Shared) (cenv : Env) (A' : Around) (s₂ : Shared) : Prop where
  hd : A'.handled = none
  dp : A'.depth ≤ X.A.depth + 1
  un : A'.units ≤ X.A.units + 8
  sc : cenv.scope = scope
  gl : cenv.globals = mainGlobals
  bl : cenv.builtins = builtinsNs
  ce : cenv.cells = cloFrom X.env.cells scope.names []
  keep : ∀ b o, b ≠ P → s1.heap.get? b = some o → s₂.heap.get? b = some o
theorem all_done {P : Addr} {H1 : Hp} {s1 : Shared} {h2 h3 : Heap} {g5 : Addr} {pb : Nat → Bool} {n : Nat} {fp wr : List Addr} {ps ps' : Array Value} {St : Nat → Shared → Prop} {h5 : Heap} {tk5 : Nat} {gs : GenState}
    (I1 : Inv X pins σ H1 s1) (hP : H1 P = some (.tbl ps)) (keep : ∀ b o, s1.heap.get? b = some o → h2.get? b = some o) (hx : Heap.ExtBut P h2 h3) (hP3 : h3.get? P = some { cls := .none, data := .fields ps' }) (hmore : ∃ more, ps' = ps ++ more) (ht3 : TriplesOk ps'.toList)
    (hsz : s1.heap.objs.size ≤ h3.objs.size) (hPlt : P < s1.heap.objs.size) (hwr : ∀ b ∈ wr, s1.heap.objs.size ≤ b) (hgb : gs.bare = true) (hk5 : ∀ b o, h3.get? b = some o → h5.get? b = some o)
    (W : WalksS X.prog X.w X.A.in4 g5 fp (h3.objs.size :: wr) (GenOnlyQ s1.gens.size) (passing (fun _ => true) n 0).length (fun j y => ∃ i, (passing (fun _ => true) n 0)[j]? = some i ∧ y = .bool (pb i)) St)
    (hat : St 0 { s1 with gens := s1.gens.push gs, toks := tk5, heap := h5 }) : ReadyG X pins σ H1 P n pb g5 { s1 with gens := s1.gens.push gs, toks := tk5, heap := h5 } := by
  have hl : (passing (fun _ => true) n 0).length = n := by rw [GxR.passing_true, List.length_range]
  rw [hl] at W
  refine ⟨_, _, _, _, _, W.in4_1, hat, truth_Fn, fun s' hm => ?_⟩
  obtain ⟨more, em⟩ := hmore
  have keep3 : ∀ b u, b ≠ P → s1.heap.get? b = some u → h3.get? b = some u := fun b u hb e => hx b u hb (keep _ _ e)
  have nwr : ∀ b u, s1.heap.get? b = some u → b ∉ h3.objs.size :: wr := fun b u e hb => by
    have hl := Heap.lt_size e
    rcases List.mem_cons.mp hb with z | z
    · rw [z] at hl
      exact Nat.lt_irrefl _ (Nat.lt_of_lt_of_le hl hsz)
    · exact Nat.lt_irrefl _ (Nat.lt_of_lt_of_le hl (hwr b z))
  have hPs : s1.heap.get? P = some { cls := .none, data := .fields ps } := I1.hok P _ hP
  have J := GxR.inv_tab (more := more) (h' := s'.heap) (g' := s'.gens) (d' := s'.drawn) (t' := s'.toks) I1 hP (fun b u hb e => hm.heap b u (nwr b u e) (hk5 b u (keep3 b u hb e)))
    (by rw [← em]; exact hm.heap P _ (nwr P _ hPs) (hk5 P _ hP3)) (AllBare.movedS (I1.bare.push hgb) hm)
  rw [GxR.sh_eta s1 s' hm.os] at J
  exact ⟨upd H1 P (.tbl (ps ++ more)), ⟨⟨ps ++ more, upd_same, by rw [← em]; exact ht3⟩, fun b hb => upd_ne hb⟩, J⟩
/-- a generator over one name -/
theorem gen_one {c P : Addr} {elt iter : Expr} {x : Str} {px gpos : Pos} {scope : Scope} {k : Nat} {Q' : Value → Shared → Prop}
    (hr : Room k X.A) (TB : GxR.TabB X.base X.mg c P) (hcode : X.env.code = .ref c) (G : GSc X.env scope) (hxl : scope.names.lookup x = some .local) (hs : ∀ v, genFold iter X.env v = pure v)
    (h : wpAny (model X.prog X.w) X.A (eval iter X.env) (fun xv sx => wpAny (model X.prog X.w) X.A (pyIter xv) (fun it s2 => ∃ (H1 : Hp) (s1 : Shared), GSrc X pins σ P s2 H1 s1 ∧
      ∃ (J : Addr) (fp wr : List Addr) (n : Nat) (Pf : Nat → Value → Prop) (St : Nat → Heap → Prop) (pb : Nat → Bool), it = .ref J ∧ (∀ A' : Around, A'.handled = none → Walks X.prog X.w A' J fp wr n Pf St) ∧ St 0 s2.heap ∧ (∀ b ∈ fp, b < s2.heap.objs.size) ∧ P ∉ fp ∧ (∀ b ∈ wr, s1.heap.objs.size ≤ b) ∧
        (∀ cenv A' E' i v s₂ m₂, GEl X P scope s1 cenv A' s₂ → Pf i v → s₂.heap.Ns cenv.locals m₂ → m₂ x = some v → wpAny (model X.prog X.w) A' (eval elt cenv) (fun y s₃ => y = .bool (pb i) ∧ Keeps s₂ s₃) E' s₂) ∧
        ∀ g s5, ReadyG X pins σ H1 P n pb g s5 → Q' (.ref g) s5) X.xe sx) X.xe s) (hok : X.Ok) (hdd : X.A.handled = none) :
    wpAny (model X.prog X.w) X.A (eval (.GeneratorExp elt [⟨.Name x px, iter, [], 0⟩] scope gpos) X.env) Q' X.xe s := by
  refine wpAny_GeneratorExp_walksQD hdd G.co (closure_ok G.free) G.cell G.dot hxl G.kind (by have := hr.dp; omega) (wpAny_mono h (fun xv sx hx => wpAny_mono hx (fun it s2 h2 => ?_) fun _ _ e => e) fun _ _ e => e) hs
  obtain ⟨H1, s1, S, J, fp, wr, n, Pf, St, pb, rfl, W, hst, hfp, hPf, hwr, hel, hQ⟩ := h2
  refine gen_code TB hcode S fun code h3 tk ps ps' hP hx hsz hP3 hmore ht3 lim hcl hPlt => ?_
  obtain ⟨I1, tab, ⟨h2, t2, rfl⟩, keep, sz⟩ := S
  refine ⟨J, fp, wr, n, Pf, St, (fun _ => true), (fun i y => y = .bool (pb i)), rfl, W, ?_, fun b hb => Nat.lt_of_lt_of_le (hfp b hb) hsz, lim, fun z => Nat.lt_irrefl _ (Nat.lt_of_lt_of_le hcl (hwr _ z)), ?_, ?_⟩
  · exact (W X.A hdd).frame _ _ _ hst fun b hb u e => hx b u (fun z => hPf (z ▸ hb)) e
  · intro href hhref
    refine ⟨fun A' E' i v s₂ m₂ hA _ _ hPv hn hm hk => ?_, fun A' E' i v s₂ m₂ hA hD hU hPv hp hn hm hk => ?_⟩
    · simp only [List.forIn_nil]
      exact wpAny_pure ⟨rfl, GxR.keeps_refl _⟩
    · refine hel _ A' E' i v s₂ m₂ ⟨hA, hD, hU, rfl, hok.glob, rfl, rfl, fun b o hb e => ?_⟩ hPv hn hm
      have lt := Heap.lt_size e
      exact hk b (List.mem_range.mpr (Nat.lt_of_lt_of_le lt (Nat.le_trans sz hsz))) (fun z => Nat.lt_irrefl _ (Nat.lt_of_lt_of_le lt (hwr _ z))) o (hhref b o (hx b o hb (keep b o e)))
  · intro g h5 tk5 gs hgb hag hsz5 hk5 W5 hat
    exact hQ g _ (all_done (s1 := s1) I1 hP keep hx hP3 hmore ht3 (Nat.le_trans sz hsz) hPlt hwr hgb hk5 W5 hat)
/-- a generator over pairs -/
theorem gen_two {c P : Addr} {elt iter : Expr} {xa xb : Str} {pa pb' pt gpos : Pos} {kt : Nat} {scope : Scope} {k : Nat} {Q' : Value → Shared → Prop}
    (hr : Room k X.A) (TB : GxR.TabB X.base X.mg c P) (hcode : X.env.code = .ref c) (G : GSc X.env scope) (hxa : scope.names.lookup xa = some .local) (hxb : scope.names.lookup xb = some .local) (hab : xa ≠ xb) (hs : ∀ v, genFold iter X.env v = pure v)
    (h : wpAny (model X.prog X.w) X.A (eval iter X.env) (fun xv sx => wpAny (model X.prog X.w) X.A (pyIter xv) (fun it s2 => ∃ (H1 : Hp) (s1 : Shared), GSrc X pins σ P s2 H1 s1 ∧
      ∃ (J : Addr) (fp wr : List Addr) (n : Nat) (Pt : Nat → Array Value → Prop) (St : Nat → Heap → Prop) (Mid : Nat → Addr → Heap → Prop) (pb : Nat → Bool), it = .ref J ∧ (∀ A' : Around, A'.handled = none → WalksU X.prog X.w A' J fp wr n Pt St Mid) ∧ (∀ i vals, Pt i vals → ∃ va vb, vals = #[va, vb]) ∧ St 0 s2.heap ∧ (∀ b ∈ fp, b < s2.heap.objs.size) ∧ P ∉ fp ∧ (∀ b ∈ wr, s1.heap.objs.size ≤ b) ∧
        (∀ cenv A' E' i va vb s₂ m₂, GEl X P scope s1 cenv A' s₂ → Pt i #[va, vb] → s₂.heap.Ns cenv.locals m₂ → m₂ xa = some va → m₂ xb = some vb → wpAny (model X.prog X.w) A' (eval elt cenv) (fun y s₃ => y = .bool (pb i) ∧ Keeps s₂ s₃) E' s₂) ∧
        ∀ g s5, ReadyG X pins σ H1 P n pb g s5 → Q' (.ref g) s5) X.xe sx) X.xe s) (hok : X.Ok) (hdd : X.A.handled = none) :
    wpAny (model X.prog X.w) X.A (eval (.GeneratorExp elt [⟨.Tuple [.Name xa pa, .Name xb pb'] kt pt, iter, [], 0⟩] scope gpos) X.env) Q' X.xe s := by
  refine wpAny_GeneratorExp_walksQTD hdd G.co (closure_ok G.free) G.cell G.dot hxa hxb hab G.kind (by have := hr.dp; omega) (wpAny_mono h (fun xv sx hx => wpAny_mono hx (fun it s2 h2 => ?_) fun _ _ e => e) fun _ _ e => e) hs
  obtain ⟨H1, s1, S, J, fp, wr, n, Pf, St, Mid, pb, rfl, W, hsz2, hst, hfp, hPf, hwr, hel, hQ⟩ := h2
  refine gen_code TB hcode S fun code h3 tk ps ps' hP hx hsz hP3 hmore ht3 lim hcl hPlt => ?_
  obtain ⟨I1, tab, ⟨h2, t2, rfl⟩, keep, sz⟩ := S
  refine ⟨J, fp, wr, n, Pf, St, Mid, (fun _ => true), (fun i y => y = .bool (pb i)), rfl, W, hsz2, ?_, fun b hb => Nat.lt_of_lt_of_le (hfp b hb) hsz, lim, fun z => Nat.lt_irrefl _ (Nat.lt_of_lt_of_le hcl (hwr _ z)), ?_, ?_⟩
  · exact (W X.A hdd).frame _ _ _ hst fun b hb u e => hx b u (fun z => hPf (z ▸ hb)) e
  · intro href hhref
    refine ⟨fun A' E' i va vb s₂ m₂ hA _ _ hPv hn hma hmb hk => ?_, fun A' E' i va vb s₂ m₂ hA hD hU hPv hp hn hma hmb hk => ?_⟩
    · simp only [List.forIn_nil]
      exact wpAny_pure ⟨rfl, GxR.keeps_refl _⟩
    · refine hel _ A' E' i va vb s₂ m₂ ⟨hA, hD, hU, rfl, hok.glob, rfl, rfl, fun b o hb e => ?_⟩ hPv hn hma hmb
      have lt := Heap.lt_size e
      exact hk b (List.mem_range.mpr (Nat.lt_of_lt_of_le lt (Nat.le_trans sz hsz))) (fun z => Nat.lt_irrefl _ (Nat.lt_of_lt_of_le lt (hwr _ z))) o (hhref b o (hx b o hb (keep b o e)))
  · intro g h5 tk5 gs hgb hag hsz5 hk5 W5 hat
    exact hQ g _ (all_done (s1 := s1) I1 hP keep hx hP3 hmore ht3 (Nat.le_trans sz hsz) hPlt hwr hgb hk5 W5 hat)

theorem all_call {P : Addr} {n : Nat} {pb : Nat → Bool} {g : Addr} {s5 : Shared} {H1 : Hp} {Q : VK} (R : ReadyG X pins σ H1 P n pb g s5) (h : ∀ H2, GxR.Tabbed P H1 H2 → Q (.bl ((List.range n).all pb)) H2) :
    wpAny (model X.prog X.w) X.A (call (.builtin "all") [.ref g]) (fun u s' => ∃ v H', Inv X pins σ H' s' ∧ RelV v u ∧ Q v H') X.xe s5 := by
  obtain ⟨fp, wr, G, F, St, W, hst, htr, hI⟩ := R
  refine call_all_walkS (W.self 0 _ _ _ hst ⟨g, fp, wr, G, _, F, St, _, rfl, W, hst, htr, fun s' hmv => ?_⟩)
  obtain ⟨H2, hT, J⟩ := hI s' hmv
  exact ⟨.bl _, H2, J, rfl, h H2 hT⟩
/-- zip of two tuples, walked in pairs -/
theorem walksU_zipT {prog : Program} {w : World} {A : Around} (hh : A.handled = none) (z TI TO i1 i2 l1 l2 : Addr) (D : ZipApart z TI TO i1 i2 l1 l2) (xs ys : Array Value) :
    WalksU prog w A z [z, TI, TO, i1, i2, l1, l2] [z, TO, i1, i2] (min xs.size ys.size)
      (fun i vals => ∃ x y, xs[i]? = some x ∧ ys[i]? = some y ∧ vals = #[x, y])
      (fun i h => IsZip h z TI TO .none ∧ IsPair h TI (.ref i1) (.ref i2) ∧ (∃ a b, IsPair h TO a b) ∧ h.IsTupleIter i1 l1 i ∧ h.IsTupleIter i2 l2 i ∧ h.IsTuple l1 xs ∧ h.IsTuple l2 ys)
      (fun i T h => IsZip h z TI TO (rawInt T) ∧ IsPair h TI (.ref i1) (.ref i2) ∧ (∃ a b, IsPair h TO a b) ∧ h.IsTupleIter i1 l1 (i + 1) ∧ h.IsTupleIter i2 l2 (i + 1) ∧ h.IsTuple l1 xs ∧ h.IsTuple l2 ys ∧
        T ≠ z ∧ T ≠ TO ∧ T ≠ i1 ∧ T ≠ i2) where
  sub := fun c hc => by
    simp only [List.mem_cons, List.not_mem_nil, or_false] at hc ⊢
    rcases hc with e | e | e | e
    · exact .inl e
    · exact .inr (.inr (.inl e))
    · exact .inr (.inr (.inr (.inl e)))
    · exact .inr (.inr (.inr (.inr (.inl e))))
  frame := fun i h h' hst hk => by
    obtain ⟨hz, hTI, ⟨a, b, hTO⟩, h1, h2, hl1, hl2⟩ := hst
    exact ⟨hk z (by simp) _ hz, hk TI (by simp) _ hTI, ⟨a, b, hk TO (by simp) _ hTO⟩, h1.at fun o e => hk i1 (by simp) o e, h2.at fun o e => hk i2 (by simp) o e,
      (let ⟨o, e, r⟩ := hl1; ⟨o, hk l1 (by simp) o e, r⟩), (let ⟨o, e, r⟩ := hl2; ⟨o, hk l2 (by simp) o e, r⟩)⟩
  item := fun i s Q E hi hst hQ => by
    obtain ⟨hz, hTI, ⟨a, b, hTO⟩, h1, h2, hl1, hl2⟩ := hst
    have hix : i < xs.size := Nat.lt_of_lt_of_le hi (Nat.min_le_left ..)
    have hiy : i < ys.size := Nat.lt_of_lt_of_le hi (Nat.min_le_right ..)
    refine RZ.pyNext_zipT_item D hz hTI hTO h1 h2 hl1 hl2 (Array.getElem?_eq_getElem hix) (Array.getElem?_eq_getElem hiy) fun h' a1 a2 a3 a4 a5 a6 hk => ?_
    have lt : ∀ {c o}, s.heap.get? c = some o → s.heap.objs.size ≠ c := fun e => Nat.ne_of_gt (Heap.lt_size e)
    obtain ⟨o1, e1, r1⟩ := hl1
    obtain ⟨o2, e2, r2⟩ := hl2
    obtain ⟨oi1, ei1, _⟩ := h1
    obtain ⟨oi2, ei2, _⟩ := h2
    exact hQ s.heap.objs.size #[xs[i], ys[i]] h' s.toks ⟨_, _, Array.getElem?_eq_getElem hix, Array.getElem?_eq_getElem hiy, rfl⟩ ⟨_, a5, rfl, _, rfl⟩
      ⟨a1, hk _ _ D.TIz D.TITO D.TIi1 D.TIi2 hTI, ⟨_, _, a2⟩, a3, a4, ⟨o1, hk _ o1 D.l1z D.l1TO D.l1i1 D.l1i2 e1, r1⟩, ⟨o2, hk _ o2 D.l2z D.l2TO D.l2i1 D.l2i2 e2, r2⟩, lt hz, lt hTO, lt ei1, lt ei2⟩
      fun c o hc e => hk c o (fun x => hc (by simp [x])) (fun x => hc (by simp [x])) (fun x => hc (by simp [x])) (fun x => hc (by simp [x])) e
  go := fun elts k pos i T s Q E hm hQ => by
    obtain ⟨hz, hTI, ⟨a, b, hTO⟩, h1, h2, ⟨o1, e1, r1⟩, ⟨o2, e2, r2⟩, _⟩ := hm
    refine wpAny_letOwnedTupleGo_zip hz fun h' hz' hs' => hQ h' ⟨hz', hs'.extBut _ _ D.TIz hTI, ⟨a, b, hs'.extBut _ _ D.TOz hTO⟩, h1.extBut hs'.extBut D.i1z, h2.extBut hs'.extBut D.i2z,
      ⟨o1, hs'.extBut _ _ D.l1z e1, r1⟩, ⟨o2, hs'.extBut _ _ D.l2z e2, r2⟩⟩ fun c o hc e => hs'.extBut _ _ (fun x => hc (by simp [x])) e
  apart := fun i T h hm hT => by
    obtain ⟨_, _, _, _, _, _, _, t1, t2, t3, t4⟩ := hm
    simp only [List.mem_cons, List.not_mem_nil, or_false] at hT
    rcases hT with e | e | e | e
    · exact t1 e
    · exact t2 e
    · exact t3 e
    · exact t4 e
  done := fun s Q E hst hQ => by
    obtain ⟨hz, hTI, ⟨a, b, hTO⟩, h1, h2, hl1, hl2⟩ := hst
    have hend : xs[min xs.size ys.size]? = none ∨ ys[min xs.size ys.size]? = none := by
      rcases Nat.le_total xs.size ys.size with h | h
      · exact .inl (by rw [Nat.min_eq_left h]; exact Array.getElem?_eq_none (Nat.le_refl _))
      · exact .inr (by rw [Nat.min_eq_right h]; exact Array.getElem?_eq_none (Nat.le_refl _))
    exact RZ.pyNext_zipT_end hh D hz hTI hTO h1 h2 hl1 hl2 hend fun h' hk => hQ h' s.toks fun c o hc e =>
      hk c o (fun x => hc (by simp [x])) (fun x => hc (by simp [x])) (fun x => hc (by simp [x])) (fun x => hc (by simp [x])) e
  self := fun i s Q E hst h => wpAny_pyIter_zip hst.1 h
end
section
variable {X : Cx} {cg : Cg} {ds : List Sl} {M M1 M2 : Mp} {pos : Pos}
theorem Tb.at {c : Cg} {H : Hp} {P : Addr} (t : Tb c H) (h : P = c.PN ∨ P = c.PA) : GxR.TabG H P := by
  rcases h with e | e <;> rw [e]
  · exact t.1
  · exact t.2.1
theorem all_range {n : Nat} {pb : Nat → Bool} {α : Type} {l : List α} {q : α → Bool} (hn : n = l.length) (h : ∀ i a, l[i]? = some a → pb i = q a) : (List.range n).all pb = l.all q := by
  subst hn
  rw [Bool.eq_iff_iff, List.all_eq_true, List.all_eq_true]
  constructor
  · intro k b hb
    obtain ⟨j, hj, e⟩ := List.getElem_of_mem hb
    rw [← e, ← h j _ (List.getElem?_eq_getElem hj)]
    exact k j (List.mem_range.mpr hj)
  · intro k j hj
    have hj' := List.mem_range.mp hj
    rw [h j _ (List.getElem?_eq_getElem hj')]
    exact k _ (List.getElem_mem hj')
def atB {α : Type} (l : List α) (q : α → Bool) (i : Nat) : Bool := match l[i]? with
  | some n => q n
  | none => false
theorem atB_some {α : Type} {l : List α} {q : α → Bool} {i : Nat} {a : α} (h : l[i]? = some a) : atB l q i = q a := by
  unfold atB
  rw [h]
/-- all(.. for x in a text) -/
theorem d_allS {cc P : Addr} {elt iter : Expr} {x : Str} {px p gpos : Pos} {scope : Scope} {k : Nat} {z : Str} {q : Nat → Bool} (hr : Room k X.A) (hc : X.calm = true) (hm : X.mg "all" = none) (TB : GxR.TabB X.base X.mg cc P) (hP : P = cg.PN ∨ P = cg.PA) (hcode : X.env.code = .ref cc) (G : GSc X.env scope)
    (hi : PE X iter (tD cg ds M (S z) M1))
    (hel : ∀ pins σ H1 B1 s1, Inv X pins σ H1 s1 → Wd cg B1 M1 H1 → Sls B1 ds σ → ∀ cenv A' E' ch t s₂ m₂, GEl X P scope s1 cenv A' s₂ → s₂.heap.Ns cenv.locals m₂ → m₂ x = some (.str ⟨#[ch]⟩ t) → wpAny (model X.prog X.w) A' (eval elt cenv) (fun y s₃ => y = .bool (q ch) ∧ Keeps s₂ s₃) E' s₂)
    (hg : Gl X "all" := by rfl) (hxl : scope.names.lookup x = some .local := by rfl) (hs : ∀ v, genFold iter X.env v = pure v := by intro _; rfl)
    (he : starEach [.GeneratorExp elt [⟨.Name x px, iter, [], 0⟩] scope gpos] X.env = (false, eval (.GeneratorExp elt [⟨.Name x px, iter, [], 0⟩] scope gpos) X.env) :: starEach [] X.env := by rfl) :
    PE X (.Call (.Name "all" p) [.GeneratorExp elt [⟨.Name x px, iter, [], 0⟩] scope gpos] [] pos) (tD cg ds M (Bo (z.cps.toList.all q)) M1) := by
  refine ⟨fun pins s σ H Q I h => ?_⟩
  refine wpAny_Call_Name_kw (ld_blt (u := .builtin "all") I hg hm (by decide +kernel) ?_)
  refine PyProof.Rows.callWith_builtin1 ?_ he (by rfl)
  rw [he]
  show wpAny _ _ (spliced ((false, eval (.GeneratorExp elt [⟨.Name x px, iter, [], 0⟩] scope gpos) X.env) :: backTo pos (starEach [] X.env))) _ _ s
  obtain ⟨B, w, sl, q0⟩ := h
  refine Calls.spliced_cons (gen_one (pins := pins) (σ := σ) hr TB hcode G hxl hs (thn (hi.run pins s σ H _ I ⟨B, w, sl, fun v B' H' g sv => (⟨B', g, sv⟩ : ∃ B', Go cg M H B M1 H' B' ∧ SlV B' (S z) v)⟩) fun xv s1 hx1 => ?_) I.ok (I.ok.hd hc))
  obtain ⟨v, H1, I1, r1, q1⟩ := hx1
  obtain ⟨B1, g1, sv⟩ := q1
  cases sv
  obtain ⟨t, rfl⟩ := _root_.id r1
  refine wpAny_pyIter_str fun o St W hst => ⟨H1, s1, ⟨I1, g1.w.t.at hP, ⟨_, s1.toks, rfl⟩, fun b u e => Heap.get?_push_of_some _ e, by rw [Heap.size_push]; exact Nat.le_succ _⟩, _, _, _, _, _, St, GxR.trF q z.cps.toList, rfl, W, hst, ?_, ?_, ?_, ?_, ?_⟩
  · intro b hb
    rw [List.mem_singleton.mp hb, Heap.size_push]
    exact Nat.lt_succ_self _
  · intro hb
    obtain ⟨ps, hps, _⟩ := g1.w.t.at hP
    have lt := Heap.lt_size (I1.hok P _ hps)
    rw [List.mem_singleton.mp hb] at lt
    exact Nat.lt_irrefl _ lt
  · intro b hb
    rw [List.mem_singleton.mp hb]
    exact Nat.le_refl _
  · intro cenv A' E' i v s₂ m₂ ge hPv hn hm2
    obtain ⟨ch, u, hch, rfl⟩ := hPv
    refine wpAny_mono (hel pins σ H1 B1 s1 I1 g1.w (sl.mono g1.b) cenv A' E' ch u s₂ m₂ ge hn hm2) (fun y s3 r => ⟨?_, r.2⟩) fun _ _ e => e
    rw [r.1, GxR.trF_some (b := ch) (by rw [Array.getElem?_toList]; exact hch)]
  · intro g s5 R
    refine Calls.spliced_nil (all_call R fun H2 hT => ?_)
    have e : (List.range z.cps.size).all (GxR.trF q z.cps.toList) = z.cps.toList.all q := all_range (by simp) fun i a e => GxR.trF_some e
    rw [e]
    exact q0 _ B1 H2 (g1.trans (Go.grow g1.w hP hT)) (.bl _)
/-- all(.. for x in a tuple of ints) -/
theorem d_allT {cc P : Addr} {elt iter : Expr} {x : Str} {px p gpos : Pos} {scope : Scope} {k : Nat} {ns : List Int} {q : Int → Bool} (hr : Room k X.A) (hc : X.calm = true) (hm : X.mg "all" = none) (TB : GxR.TabB X.base X.mg cc P) (hP : P = cg.PN ∨ P = cg.PA) (hcode : X.env.code = .ref cc) (G : GSc X.env scope)
    (hi : PE X iter (tD cg ds M (.dat (.tuple (ns.map PyData.int))) M1))
    (hel : ∀ pins σ H1 B1 s1, Inv X pins σ H1 s1 → Wd cg B1 M1 H1 → Sls B1 ds σ → ∀ cenv A' E' n t s₂ m₂, n ∈ ns → GEl X P scope s1 cenv A' s₂ → s₂.heap.Ns cenv.locals m₂ → m₂ x = some (.int n t) → wpAny (model X.prog X.w) A' (eval elt cenv) (fun y s₃ => y = .bool (q n) ∧ Keeps s₂ s₃) E' s₂)
    (hK : X.K = cg.K := by rfl) (hg : Gl X "all" := by rfl) (hxl : scope.names.lookup x = some .local := by rfl) (hs : ∀ v, genFold iter X.env v = pure v := by intro _; rfl)
    (he : starEach [.GeneratorExp elt [⟨.Name x px, iter, [], 0⟩] scope gpos] X.env = (false, eval (.GeneratorExp elt [⟨.Name x px, iter, [], 0⟩] scope gpos) X.env) :: starEach [] X.env := by rfl) :
    PE X (.Call (.Name "all" p) [.GeneratorExp elt [⟨.Name x px, iter, [], 0⟩] scope gpos] [] pos) (tD cg ds M (Bo (ns.all q)) M1) := by
  refine ⟨fun pins s σ H Q I h => ?_⟩
  refine wpAny_Call_Name_kw (ld_blt (u := .builtin "all") I hg hm (by decide +kernel) ?_)
  refine PyProof.Rows.callWith_builtin1 ?_ he (by rfl)
  rw [he]
  show wpAny _ _ (spliced ((false, eval (.GeneratorExp elt [⟨.Name x px, iter, [], 0⟩] scope gpos) X.env) :: backTo pos (starEach [] X.env))) _ _ s
  obtain ⟨B, w, sl, q0⟩ := h
  refine Calls.spliced_cons (gen_one (pins := pins) (σ := σ) hr TB hcode G hxl hs (thn (hi.run pins s σ H _ I ⟨B, w, sl, fun v B' H' g sv => (⟨B', g, sv⟩ : ∃ B', Go cg M H B M1 H' B' ∧ SlV B' (.dat (.tuple (ns.map PyData.int))) v)⟩) fun xv s1 hx1 => ?_) I.ok (I.ok.hd hc))
  obtain ⟨v, H1, I1, r1, q1⟩ := hx1
  obtain ⟨B1, g1, sv⟩ := q1
  cases sv with
  | @tup ad us _ hb ha =>
    cases r1
    have sq : SqT X.K H1 ad us := .inl (.inl (g1.w.b _ _ hb).2.2)
    obtain ⟨its, rv, ht, _⟩ := I1.tuple sq
    have eu := dpa_ints ha
    subst eu
    have hlt : ad < s1.heap.objs.size := by obtain ⟨o, e, _⟩ := ht; exact Heap.lt_size e
    obtain ⟨ps, hps, _⟩ := g1.w.t.at hP
    have hPs := I1.hok P _ hps
    have lt := Heap.lt_size hPs
    have len : its.length = ns.length := by rw [← rv.length, List.length_map]
    refine wpAny_pyIter_tuple (show s1.heap.IsTuple ad its.toArray from ht) ⟨H1, s1, ⟨I1, g1.w.t.at hP, ⟨_, s1.toks, rfl⟩, fun b u e => Heap.get?_push_of_some _ e, by rw [Heap.size_push]; exact Nat.le_succ _⟩, s1.heap.objs.size, [s1.heap.objs.size, ad], [s1.heap.objs.size], its.toArray.size, _, _, (atB ns q), rfl,
      (fun A' hA => Walks.tuple hA _ _ (Nat.ne_of_lt hlt) its.toArray), ⟨⟨_, Heap.get?_push_size _ rfl, rfl, rfl⟩, Heap.IsTuple.push (show s1.heap.IsTuple ad its.toArray from ht) _⟩, ?_, ?_, ?_, ?_, ?_⟩
    · intro b hb
      show b < (s1.heap.push _).objs.size
      rw [Heap.size_push]
      rcases List.mem_cons.mp hb with z | z
      · rw [z]
        exact Nat.lt_succ_self _
      · rw [List.mem_singleton.mp z]
        exact Nat.lt_succ_of_lt hlt
    · intro hb
      rcases List.mem_cons.mp hb with z | z
      · rw [z] at lt
        exact Nat.lt_irrefl _ lt
      · rw [List.mem_singleton.mp z] at hPs
        obtain ⟨o, e, e2, _⟩ := ht
        rw [hPs] at e
        cases e
        cases e2
    · intro b hb
      rw [List.mem_singleton.mp hb]
      exact Nat.le_refl _
    · intro cenv A' E' i v s₂ m₂ ge hPv hn hm2
      have hv : its[i]? = some v := by simpa using hPv
      have hil : i < ns.length := by
        rw [← len]
        exact (List.getElem?_eq_some_iff.mp hv).1
      have hni : ns[i]? = some ns[i] := List.getElem?_eq_getElem hil
      obtain ⟨u, hu, ru⟩ := rv.get (i := i) (x := .int ns[i]) (by rw [List.getElem?_map, hni]; rfl)
      rw [hv] at hu
      cases hu
      obtain ⟨t, rfl⟩ := _root_.id ru
      refine wpAny_mono (hel pins σ H1 B1 s1 I1 g1.w (sl.mono g1.b) cenv A' E' ns[i] t s₂ m₂ (List.getElem_mem hil) ge hn hm2) (fun y s3 r => ⟨?_, r.2⟩) fun _ _ e => e
      rw [r.1, atB_some hni]
    · intro g s5 R
      refine Calls.spliced_nil (all_call R fun H2 hT => ?_)
      have e : (List.range its.toArray.size).all (atB ns q) = ns.all q := all_range (by simpa using len) fun i a e => atB_some e
      rw [e]
      exact q0 _ B1 H2 (g1.trans (Go.grow g1.w hP hT)) (.bl _)
/-- all(.. for x, y in zip(tuple of ints, tuple of ints)) -/
theorem d_allZ {cc P : Addr} {elt e1 e2 : Expr} {xa xb : Str} {pa pb' pt pz p gpos ppos : Pos} {kt : Nat} {scope : Scope} {k : Nat} {ns ms : List Int} {q : Int × Int → Bool} (hr : Room k X.A) (hc : X.calm = true) (hm : X.mg "all" = none) (hz : X.mg "zip" = none) (TB : GxR.TabB X.base X.mg cc P) (hP : P = cg.PN ∨ P = cg.PA) (hcode : X.env.code = .ref cc) (G : GSc X.env scope)
    (h1 : PE X e1 (tD cg ds M (.dat (.tuple (ns.map PyData.int))) M1)) (h2 : PE X e2 (tD cg ds M1 (.dat (.tuple (ms.map PyData.int))) M2))
    (hel : ∀ pins σ H1 B1 s1, Inv X pins σ H1 s1 → Wd cg B1 M2 H1 → Sls B1 ds σ → ∀ cenv A' E' a b t u s₂ m₂, GEl X P scope s1 cenv A' s₂ → s₂.heap.Ns cenv.locals m₂ → m₂ xa = some (.int a t) → m₂ xb = some (.int b u) → wpAny (model X.prog X.w) A' (eval elt cenv) (fun y s₃ => y = .bool (q (a, b)) ∧ Keeps s₂ s₃) E' s₂)
    (hK : X.K = cg.K := by rfl) (hg : Gl X "all" := by rfl) (hgz : Gl X "zip" := by rfl) (hxa : scope.names.lookup xa = some .local := by rfl) (hxb : scope.names.lookup xb = some .local := by rfl) (hab : xa ≠ xb := by decide) (hs : ∀ v, genFold (.Call (.Name "zip" pz) [e1, e2] [] ppos) X.env v = pure v := by intro _; rfl)
    (hs1 : starEach [e1, e2] X.env = (false, eval e1 X.env) :: starEach [e2] X.env := by rfl) (hs2 : starEach [e2] X.env = (false, eval e2 X.env) :: starEach [] X.env := by rfl) (hpl : (backTo ppos (starEach [e2] X.env)).any (·.1) = false := by rfl)
    (he : starEach [.GeneratorExp elt [⟨.Tuple [.Name xa pa, .Name xb pb'] kt pt, .Call (.Name "zip" pz) [e1, e2] [] ppos, [], 0⟩] scope gpos] X.env = (false, eval (.GeneratorExp elt [⟨.Tuple [.Name xa pa, .Name xb pb'] kt pt, .Call (.Name "zip" pz) [e1, e2] [] ppos, [], 0⟩] scope gpos) X.env) :: starEach [] X.env := by rfl) :
    PE X (.Call (.Name "all" p) [.GeneratorExp elt [⟨.Tuple [.Name xa pa, .Name xb pb'] kt pt, .Call (.Name "zip" pz) [e1, e2] [] ppos, [], 0⟩] scope gpos] [] pos) (tD cg ds M (Bo ((ns.zip ms).all q)) M2) := by
  refine ⟨fun pins s σ H Q I h => ?_⟩
  refine wpAny_Call_Name_kw (ld_blt (u := .builtin "all") I hg hm (by decide +kernel) ?_)
  refine PyProof.Rows.callWith_builtin1 ?_ he (by rfl)
  rw [he]
  show wpAny _ _ (spliced ((false, eval (.GeneratorExp elt [⟨.Tuple [.Name xa pa, .Name xb pb'] kt pt, .Call (.Name "zip" pz) [e1, e2] [] ppos, [], 0⟩] scope gpos) X.env) :: backTo pos (starEach [] X.env))) _ _ s
  obtain ⟨B, w, sl, q0⟩ := h
  refine Calls.spliced_cons (gen_two (pins := pins) (σ := σ) hr TB hcode G hxa hxb hab hs (Call_ (ld_blt I hgz hz PyProof.Rows.boot_zip (PyProof.Rows.callWith_type1 (thn ((ds_cons h1 (ds_cons h2 ds_nil hs2) hs1).run ppos pins s σ H (fun vs H' => ∃ B', Go cg M H B M2 H' B' ∧ SlVs B' [.dat (.tuple (ns.map PyData.int)), .dat (.tuple (ms.map PyData.int))] vs) I ⟨B, w, sl, fun v B' H' g sv => ⟨B', g, sv⟩⟩) fun us s1 hx1 => ?_) hs1 hpl))) I.ok (I.ok.hd hc))
  obtain ⟨vs, H1, I1, r1, B1, g1, sv⟩ := hx1
  cases sv with
  | cons sa sv =>
    cases sv with
    | cons sb sv =>
      cases sv
      cases sa with
      | @tup a1 us1 _ hb1 ha1 =>
        cases sb with
        | @tup a2 us2 _ hb2 ha2 =>
          cases r1 with
          | cons ra r1 =>
            cases r1 with
            | cons rb r1 =>
              cases r1
              cases ra
              cases rb
              have eu := dpa_ints ha1
              have ev := dpa_ints ha2
              subst eu ev
              obtain ⟨its, rv, t1, _⟩ := I1.tuple (show SqT X.K H1 a1 _ from .inl (.inl (g1.w.b _ _ hb1).2.2))
              obtain ⟨its2, rv2, t2, _⟩ := I1.tuple (show SqT X.K H1 a2 _ from .inl (.inl (g1.w.b _ _ hb2).2.2))
              have l1 : its.length = ns.length := by rw [← rv.length, List.length_map]
              have l2 : its2.length = ms.length := by rw [← rv2.length, List.length_map]
              obtain ⟨o1, ho1, hc1, r1⟩ := id t1
              obtain ⟨o2, ho2, hc2, r2⟩ := id t2
              have lt1 := Heap.lt_size ho1
              have lt2 := Heap.lt_size ho2
              obtain ⟨ps, hps, _⟩ := g1.w.t.at hP
              have hPs : s1.heap.get? P = some { cls := .none, data := .fields ps } := I1.hok P _ hps
              have ltP := Heap.lt_size hPs
              refine RZ.call_zipT (show s1.heap.IsTuple a1 its.toArray from t1) (show s1.heap.IsTuple a2 its2.toArray from t2) fun h' z1 hTI hTO i1 i2 hsz hk => wpAny_pyIter_zip z1 ⟨H1, s1, ⟨I1, g1.w.t.at hP, ⟨_, s1.toks, rfl⟩, hk, by show s1.heap.objs.size ≤ h'.objs.size; omega⟩,
                s1.heap.objs.size + 4, [s1.heap.objs.size + 4, s1.heap.objs.size + 2, s1.heap.objs.size + 3, s1.heap.objs.size, s1.heap.objs.size + 1, a1, a2], [s1.heap.objs.size + 4, s1.heap.objs.size + 3, s1.heap.objs.size, s1.heap.objs.size + 1], min its.toArray.size its2.toArray.size, _, _, _, atB (ns.zip ms) q, rfl,
                (fun A' hA => walksU_zipT hA _ _ _ _ _ a1 a2 (PySem.W.ktu_apart s1.heap.objs.size a1 a2 lt1 lt2) its.toArray its2.toArray), ?_, ⟨z1, hTI, ⟨_, _, hTO⟩, i1, i2, ⟨o1, hk _ _ ho1, hc1, r1⟩, ⟨o2, hk _ _ ho2, hc2, r2⟩⟩, ?_, ?_, ?_, ?_, ?_⟩
              · rintro i vals ⟨x, y, _, _, e⟩
                exact ⟨x, y, e⟩
              · intro b hb
                show b < h'.objs.size
                simp only [List.mem_cons, List.not_mem_nil, or_false] at hb
                rcases hb with e | e | e | e | e | e | e <;> rw [e, hsz]
                · exact Nat.add_lt_add_left (by decide) _
                · exact Nat.add_lt_add_left (by decide) _
                · exact Nat.add_lt_add_left (by decide) _
                · exact Nat.lt_add_of_pos_right (by decide)
                · exact Nat.add_lt_add_left (by decide) _
                · exact Nat.lt_of_lt_of_le lt1 (Nat.le_add_right _ _)
                · exact Nat.lt_of_lt_of_le lt2 (Nat.le_add_right _ _)
              · intro hb
                simp only [List.mem_cons, List.not_mem_nil, or_false] at hb
                rcases hb with e | e | e | e | e | e | e
                · exact absurd (e ▸ ltP) (Nat.not_lt.mpr (Nat.le_add_right _ _))
                · exact absurd (e ▸ ltP) (Nat.not_lt.mpr (Nat.le_add_right _ _))
                · exact absurd (e ▸ ltP) (Nat.not_lt.mpr (Nat.le_add_right _ _))
                · exact absurd (e ▸ ltP) (Nat.lt_irrefl _)
                · exact absurd (e ▸ ltP) (Nat.not_lt.mpr (Nat.le_add_right _ _))
                · rw [e, ho1] at hPs
                  cases hPs
                  cases hc1
                · rw [e, ho2] at hPs
                  cases hPs
                  cases hc2
              · intro b hb
                simp only [List.mem_cons, List.not_mem_nil, or_false] at hb
                rcases hb with e | e | e | e <;> rw [e]
                · exact Nat.le_add_right _ _
                · exact Nat.le_add_right _ _
                · exact Nat.le_refl _
                · exact Nat.le_add_right _ _
              · intro cenv A' E' i va vb s₂ m₂ ge hPv hn hma hmb
                obtain ⟨x, y, hx, hy, e⟩ := hPv
                obtain ⟨ea, eb⟩ : va = x ∧ vb = y := by simpa using congrArg Array.toList e
                subst ea eb
                have hx' : its[i]? = some va := by simpa using hx
                have hy' : its2[i]? = some vb := by simpa using hy
                have k1 : i < ns.length := by rw [← l1]; exact (List.getElem?_eq_some_iff.mp hx').1
                have k2 : i < ms.length := by rw [← l2]; exact (List.getElem?_eq_some_iff.mp hy').1
                have n1 : ns[i]? = some ns[i] := List.getElem?_eq_getElem k1
                have n2 : ms[i]? = some ms[i] := List.getElem?_eq_getElem k2
                obtain ⟨u, hu, ru⟩ := rv.get (i := i) (x := .int ns[i]) (by rw [List.getElem?_map, n1]; rfl)
                rw [hx'] at hu
                cases hu
                obtain ⟨u', hu', ru'⟩ := rv2.get (i := i) (x := .int ms[i]) (by rw [List.getElem?_map, n2]; rfl)
                rw [hy'] at hu'
                cases hu'
                obtain ⟨t, rfl⟩ := _root_.id ru
                obtain ⟨t', rfl⟩ := _root_.id ru'
                refine wpAny_mono (hel pins σ H1 B1 s1 I1 g1.w (sl.mono g1.b) cenv A' E' ns[i] ms[i] t t' s₂ m₂ ge hn hma hmb) (fun y s3 r => ⟨?_, r.2⟩) fun _ _ e => e
                rw [r.1, atB_some (a := (ns[i], ms[i])) (List.getElem?_zip_eq_some.mpr ⟨n1, n2⟩)]
              · intro g s5 R
                refine Calls.spliced_nil (all_call R fun H2 hT => ?_)
                have e : (List.range (min its.toArray.size its2.toArray.size)).all (atB (ns.zip ms) q) = (ns.zip ms).all q := all_range (by rw [List.length_zip, List.size_toArray, List.size_toArray, l1, l2]) fun i a e => atB_some e
                rw [e]
                exact q0 _ B1 H2 (g1.trans (Go.grow g1.w hP hT)) (.bl _)
end
end Zd
end
/-! ## Z6 -/
section
set_option Elab.async false
set_option linter.all false
set_option maxRecDepth 100000
set_option maxHeartbeats 4000000
/-! Further rules: what is forgotten, loops that ask of each, guards that do not hold. -/
namespace Zd
open PySem PySem.Spec PyProof.Rows L2
inductive Wk : List Sl → List Sl → Prop
  | nil : Wk [] []
  | keep {d : Sl} {ds es : List Sl} (h : Wk ds es) : Wk (d :: ds) (d :: es)
  | drop {d : Sl} {ds es : List Sl} (h : Wk ds es) : Wk (d :: ds) (.no :: es)
theorem Wk.to {ds es : List Sl} (h : Wk ds es) : ∀ {B : Hp} {σ : L2.St}, Sls B ds σ → Sls B es σ := by
  induction h with
  | nil => exact fun s => s
  | keep _ ih => intro B σ s; cases s with | cons a t => exact .cons a (ih t)
  | drop _ ih => intro B σ s; cases s with | cons a t => exact .cons trivial (ih t)
section
variable {X : Cx} {c : Cg} {E : XK} {ds ds1 ds2 : List Sl} {M M1 M2 M3 : Mp} {a b e tg iter : Expr} {d d1 d2 d3 : Sl} {pos : Pos} {o o1 : Out} {st : Stmt} {rest body : List Stmt}
theorem b_weak {sts : List Stmt} (h : PSs X sts (tS c E ds M (.nx ds1 M1))) (w : Wk ds1 ds2 := by repeat (first | exact Wk.nil | apply Wk.keep | apply Wk.drop)) : PSs X sts (tS c E ds M (.nx ds2 M1)) :=
  PSs.to h fun D σ H ⟨B, wd, s, q⟩ => ⟨B, wd, s, fun σ' B' H' g s' => q σ' B' H' g (w.to s')⟩
/-- what is known is forgotten ahead of a block -/
theorem b_pre {sts : List Stmt} (w : Wk ds ds1) (h : PSs X sts (tS c E ds1 M o)) : PSs X sts (tS c E ds M o) :=
  PSs.to h fun D σ H ⟨B, wd, s, q⟩ => ⟨B, wd, w.to s, q⟩
/-- a guard that does not hold -/
theorem b_skip {cnd : Expr} {xs : List Stmt} (h : PT X cnd (tDT c ds M false M1)) (h2 : PSs X rest (tS c E ds M1 o)) : PSs X (.If cnd xs [] pos :: rest) (tS c E ds M o) :=
  b_if h (fun z => by cases z) fun _ => ⟨_, b_nil, h2⟩
/-- a guard that holds: the block ends there -/
theorem b_hit {cnd : Expr} {xs : List Stmt} (h : PT X cnd (tDT c ds M true M1)) (h2 : PSs X xs (tS c E ds M1 o)) (ho : ∀ ds' M', o ≠ .nx ds' M') : PSs X (.If cnd xs [] pos :: rest) (tS c E ds M o) :=
  b_guard h (fun _ => h2) (fun _ => ho) (fun z => by cases z)
/-- a result by cases -/
theorem d_ifD {cnd : Expr} {k : Bool} {D1 D2 : PyData} (h : PT X cnd (tDT c ds M k M1)) (h1 : k = true → PE X a (tD c ds M1 (.dat D1) M2)) (h2 : k = false → PE X b (tD c ds M1 (.dat D2) M2)) : PE X (.IfExp cnd a b pos) (tD c ds M (.dat (cond k D1 D2)) M2) :=
  d_if h (fun z => ed_cast (h1 z) (by rw [z]; rfl)) fun z => ed_cast (h2 z) (by rw [z]; rfl)
/-- a loop that ends the block by d where a thing is not as wanted -/
theorem s_forall {α : Type} {as : List α} {g : α → PyData} {es : List PyData} (q : α → Bool) (T : α → List Sl) (is : List Nat) (hes : es = as.map g) (hp : PassesOwn (model X.prog X.w) X.A X.env X.xe) (hc : X.calm = true) (hi : PI X tg iter (tI c ds M es M))
    (hg : ∀ a ∈ as, PG X tg (gD c ds M (.dat (g a)) (T a) is))
    (hb : ∀ a ∈ as, PSs X body (tS c E (T a) M (if q a = true then .nx ds M else .rt d M)))
    (hs : ∀ x, foldedSetIterable iter X.env x = pure x := by intro _; rfl) : PS X (.For tg iter body [] pos) (tS c E ds M (if as.all q = true then .nx ds M else .rt d M)) := by
  subst hes
  have get : ∀ (i : Nat) (D : PyData), (as.map g)[i]? = some D → ∃ a, as[i]? = some a ∧ D = g a ∧ a ∈ as := fun i D e => by
    rw [List.getElem?_map] at e
    cases q : as[i]? with
    | none => rw [q] at e; cases e
    | some a =>
      rw [q] at e
      cases e
      exact ⟨a, rfl, rfl, List.mem_of_getElem? q⟩
  refine s_for (es := as.map g) (fun _ => ds) (fun _ => M) (fun i => match as[i]? with | some a => T a | none => ds) is (fun i => match as[i]? with | some a => (if q a = true then .nx ds M else .rt d M) | none => .nx ds M) (fun i => (as.take i).all q = true) hp hc hi rfl (by simp)
    (fun i D _ e => ?_) (fun i D _ e => ?_) (fun i D l e => ?_) (fun l => ?_) hs
  · obtain ⟨a, e1, rfl, hm⟩ := get i D e
    simp only [e1]
    exact hg a hm
  · obtain ⟨a, e1, rfl, hm⟩ := get i D e
    simp only [e1]
    exact hb a hm
  · obtain ⟨a, e1, rfl, hm⟩ := get i D e
    simp only [e1]
    cases hq : q a with
    | true =>
      refine .inl ⟨rfl, ?_⟩
      rw [List.take_add_one, e1, List.all_append, l]
      simp [hq]
    | false =>
      refine .inr ?_
      have : as.all q = false := by
        rw [List.all_eq_false]
        exact ⟨a, hm, by rw [hq]; exact Bool.false_ne_true⟩
      rw [this, if_neg Bool.false_ne_true]
      exact ⟨rfl, fun _ _ => nofun⟩
  · rw [List.length_map, List.take_length] at l
    rw [if_pos l]
/-! ### loops with a state, told by a step that may end the block -/
def thenS {τ : Type} (x : Sum Out τ) (f : τ → Sum Out τ) : Sum Out τ := match x with
  | .inl x => .inl x
  | .inr s => f s
def scanS {α τ : Type} (step : τ → α → Sum Out τ) : τ → List α → Sum Out τ
  | s, [] => .inr s
  | s, a :: r => thenS (step s a) fun s' => scanS step s' r
theorem scanS_app {α τ : Type} (step : τ → α → Sum Out τ) : ∀ (l m : List α) (s : τ), scanS step s (l ++ m) = thenS (scanS step s l) fun s' => scanS step s' m
  | [], m, s => rfl
  | a :: l, m, s => by
    show thenS (step s a) (fun s' => scanS step s' (l ++ m)) = thenS (thenS (step s a) fun s' => scanS step s' l) fun s' => scanS step s' m
    cases step s a with
    | inl x => rfl
    | inr s' => exact scanS_app step l m s'
def outS {τ : Type} (S : τ → List Sl) (Mf : τ → Mp) : Sum Out τ → Out
  | .inl x => x
  | .inr s => .nx (S s) (Mf s)
theorem scan_inv {α τ : Type} {step : τ → α → Sum Out τ} {Iv : τ → Prop} : ∀ (l : List α) (s s' : τ), (∀ s a s', Iv s → a ∈ l → step s a = .inr s' → Iv s') → Iv s → scanS step s l = .inr s' → Iv s'
  | [], s, s', _, h, e => by cases e; exact h
  | a :: l, s, s', hs, h, e => by
    have e : thenS (step s a) (fun s' => scanS step s' l) = .inr s' := e
    cases q : step s a with
    | inl x => rw [q] at e; cases e
    | inr s1 =>
      rw [q] at e
      exact scan_inv l s1 s' (fun s a s' hi hm => hs s a s' hi (List.mem_cons_of_mem _ hm)) (hs s a s1 h List.mem_cons_self q) e
theorem s_scan {α τ : Type} {as : List α} {g : α → PyData} {es : List PyData} (step : τ → α → Sum Out τ) (s0 : τ) (S : τ → List Sl) (Mf : τ → Mp) (T : τ → α → List Sl) (is : List Nat) (Iv : τ → Prop) (hes : es = as.map g) (hp : PassesOwn (model X.prog X.w) X.A X.env X.xe) (hc : X.calm = true)
    (hi : PI X tg iter (tI c (S s0) M es (Mf s0))) (h0 : Iv s0) (hI : ∀ s a s', Iv s → a ∈ as → step s a = .inr s' → Iv s') (hx : ∀ s a ds' M', step s a ≠ .inl (.nx ds' M'))
    (hg : ∀ s a, Iv s → a ∈ as → PG X tg (gD c (S s) (Mf s) (.dat (g a)) (T s a) is))
    (hb : ∀ s a, Iv s → a ∈ as → PSs X body (tS c E (T s a) (Mf s) (outS S Mf (step s a))))
    (hs : ∀ x, foldedSetIterable iter X.env x = pure x := by intro _; rfl) : PS X (.For tg iter body [] pos) (tS c E (S s0) M (outS S Mf (scanS step s0 as))) := by
  subst hes
  have get : ∀ (i : Nat) (D : PyData), (as.map g)[i]? = some D → ∃ a, as[i]? = some a ∧ D = g a ∧ a ∈ as := fun i D e => by
    rw [List.getElem?_map] at e
    cases q : as[i]? with
    | none => rw [q] at e; cases e
    | some a =>
      rw [q] at e
      cases e
      exact ⟨a, rfl, rfl, List.mem_of_getElem? q⟩
  have invt : ∀ i st, scanS step s0 (as.take i) = .inr st → Iv st := fun i st e => scan_inv _ _ _ (fun s a s' hi hm => hI s a s' hi (List.mem_of_mem_take hm)) h0 e
  have nxt : ∀ i a, as[i]? = some a → ∀ st, scanS step s0 (as.take i) = .inr st → scanS step s0 (as.take (i + 1)) = step st a := fun i a e st q => by
    rw [List.take_add_one, e, scanS_app, q]
    show thenS (step st a) (fun s' => scanS step s' []) = step st a
    cases step st a <;> rfl
  have never : ∀ ds' M', ∀ (l : List α) (s : τ), scanS step s l ≠ .inl (.nx ds' M') := fun ds' M' l => by
    induction l with
    | nil => intro s z; cases z
    | cons a r ih =>
      intro s z
      have z : thenS (step s a) (fun s' => scanS step s' r) = .inl (.nx ds' M') := z
      cases q : step s a with
      | inl x =>
        rw [q] at z
        cases z
        exact hx s a ds' M' q
      | inr s1 => rw [q] at z; exact ih s1 z
  refine s_for (es := as.map g) (fun i => match scanS step s0 (as.take i) with | .inr st => S st | .inl _ => []) (fun i => match scanS step s0 (as.take i) with | .inr st => Mf st | .inl _ => M) (fun i => match scanS step s0 (as.take i), as[i]? with | .inr st, some a => T st a | _, _ => []) is
    (fun i => match scanS step s0 (as.take i), as[i]? with | .inr st, some a => outS S Mf (step st a) | _, _ => .nx [] M) (fun i => ∃ st, scanS step s0 (as.take i) = .inr st) hp hc hi rfl ⟨s0, rfl⟩ (fun i D l e => ?_) (fun i D l e => ?_) (fun i D l e => ?_) (fun l => ?_) hs
  · obtain ⟨a, e1, rfl, hm⟩ := get i D e
    obtain ⟨st, l⟩ := l
    simp only [l, e1]
    exact hg st a (invt i st l) hm
  · obtain ⟨a, e1, rfl, hm⟩ := get i D e
    obtain ⟨st, l⟩ := l
    simp only [l, e1]
    exact hb st a (invt i st l) hm
  · obtain ⟨a, e1, rfl, hm⟩ := get i D e
    obtain ⟨st, l⟩ := l
    have n := nxt i a e1 st l
    simp only [l, e1, n]
    cases q : step st a with
    | inr s1 => exact .inl ⟨rfl, s1, rfl⟩
    | inl x =>
      refine .inr ?_
      have all : scanS step s0 as = .inl x := by
        have := scanS_app step (as.take (i + 1)) (as.drop (i + 1)) s0
        rw [List.take_append_drop, n, q] at this
        exact this
      rw [all]
      refine ⟨rfl, fun ds' M' z => ?_⟩
      have z : x = .nx ds' M' := z
      exact never ds' M' as s0 (by rw [all, z])
  · obtain ⟨st, l⟩ := l
    rw [List.length_map, List.take_length] at l
    simp only [List.length_map, List.take_length, l]
    rfl
end
end Zd
end
/-! ## Z7 -/
section
set_option Elab.async false
set_option linter.all false
set_option maxRecDepth 100000
set_option maxHeartbeats 4000000
/-! raise BadText(e), raise BadStory(). Turned from the worked proof skel/42. -/
namespace PySem
namespace BtX
open PySem.W PySem.Calls PyProof.Rows PySem.HandSPX
/-! ### the text of __init__ -/
def iA (p1 p2 : Pos) : Arguments := { posonlyargs := [], args := [{ arg := "self", annotation := none, pos := p1 }, { arg := "line", annotation := none, pos := p2 }], vararg := none, kwonlyargs := [], kw_defaults := [], kwarg := none, defaults := [] }
def iB (q1 q2 q3 q4 : Pos) : List Stmt := [.Assign [.Attribute (.Name "self" q1) "line" q2] (.Name "line" q3) q4]
def iS : Scope := { kind := .function, names := [(PySem.Str.ofString "self", .local), (PySem.Str.ofString "line", .local)], isGenerator := false, isCoroutine := false, more := [] }
/-- what the written part says of BadText, at C, and of its __init__, at fI -/
structure BtTxt (K : Frag) (mg : Str → Option Value) (C fI : Addr) : Prop where
  gC : mg "BadText" = some (.ref C)
  cls : ∃ nm q N bs bm sn sub ab col dd k0 k1 k2 k3 k5, K.lookup C = some (excClassObj nm q C N bs bm true sn sub ab col dd k0 k1 k2 k3 k5 "ValueError.__new__") ∧ refsVE bm = true
  sa : findIn K (.ref C) "__setattr__" = some (some (.builtin "object.__setattr__"))
  ga : findIn K (.ref C) "__getattribute__" = some (some (.builtin "BaseException.__getattribute__"))
  gg : findIn K (.ref C) "__getattr__" = some none
  noN : findIn K (.ref C) "line" = some none
  iC : findIn K (.ref C) "__init__" = some (some (.ref fI))
  tC : typeIn K (.ref fI) = some (.type "function")
  kC : keepIn K (.ref C) = true
  exC : subIn K (.ref C) (.type "BaseException") = some true
  tyC : typeIn K (.ref C) = some (.type "type")
  hdC : hasDictIn K C = true
  te : exmOne K (.ref C) (.ref C) = some true
  fn : ∃ (oc : Value) (od : Option Addr) (doc pm : Value) (an : Option Addr) (cdv ct : Value) (osl : Array (Option Value)) (p1 p2 q1 q2 q3 q4 : Pos),
    K.lookup fI = some ⟨oc, od, .func (fnOf "__init__" "BadText.__init__" (iA p1 p2) (iB q1 q2 q3 q4) iS .none .none doc pm an cdv ct), osl⟩ ∧ codeIn K cdv "BadText.__init__" = true
theorem one_size (v : Value) : [v].length ≤ sizeLine := by
  rw [sizeLine_eq]
  exact (by decide : 1 ≤ 16777216)
theorem kept_but {K : Frag} {h h' : Heap} {x : Addr} (X : K.In h) (hx : K.lookup x = none) (k : ∀ b o, b ≠ x → h.get? b = some o → h'.get? b = some o) : K.In h' := fun a o e =>
  k a o (fun z => by rw [z, hx] at e; cases e) (X a o e)
theorem ldC {M : Model} {s : Shared} {name : Str} {scope : Scope} {L a : Addr} {cd : Value} {m : Str → Option Value} {x : Str} {pos : Pos} {v : Value} {Q : Value → Shared → Prop} {A : Around} {E : Value → Shared → Prop} (hn : s.heap.Ns L m) (hv : m x = some v) (h : Q v s)
    (hk : scope.kind = .function := by rfl) (hl : (envOfC name scope L a cd).kindOf x = some .local := by rfl) (hd : (x == ("__debug__" : Str)) = false := by decide) :
    wpAny M A (eval (.Name x pos) (envOfC name scope L a cd)) Q E s := wpAny_Name (wpAny_loadName_local hk hl hn hv h) hd
/-- what __init__ leaves of a fresh exception at x -/
structure InitEnd (h h' : Heap) (x C dx t1 : Addr) (v : Value) : Prop where
  keep : ∀ b o, b ≠ x → h.get? b = some o → h'.get? b = some o
  obj : h'.get? x = some { cls := .ref C, dict := some dx, data := .fields #[.ref t1, .none, .none, .none, .bool false, .none] }
  dbig : h.objs.size ≤ dx
  dne : dx ≠ x
  ns : h'.Ns1 dx (fun y => if y = "line" then some v else none)
/-- a made BadText -/
structure OwnMade (h h' : Heap) (e C d : Addr) (v : Value) : Prop where
  keep : ∀ b o, h.get? b = some o → h'.get? b = some o
  new : h.objs.size ≤ e
  obj : ∃ oe vs, h'.get? e = some oe ∧ oe.cls = .ref C ∧ oe.dict = some d ∧ oe.data = .fields vs ∧ vs[1]? = some .none
  dbig : h.objs.size ≤ d
  dne : d ≠ e
  ns : h'.Ns1 d (fun y => if y = "line" then some v else none)
section
variable {prog : Program} {w : World} {A : Around} {E : Value → Shared → Prop} {R : Result → Shared → Prop} {s : Shared} {K : Frag} {mg : Str → Option Value} {C fI : Addr}
theorem bt_init (T : BtTxt K mg C fI) {x t0 : Addr} {v : Value} (X : K.In s.heap) (hlim : s.heap.NoLimit) (hx : s.heap.get? x = some (excO C t0)) (hnx : K.lookup x = none) (hroom : A.depth < recursionLimit)
    (hq : ∀ h' tk dx, InitEnd s.heap h' x C dx t0 v → R (.ok (.ret .none)) { s with heap := h', toks := tk }) :
    codeAny (model prog w) A (.call (.ref fI) ⟨[.ref x, v], []⟩) R s := by
  obtain ⟨oc, od, doc, pm, an, cdv, ct, osl, p1, p2, q1, q2, q3, q4, ho, hcd⟩ := T.fn
  obtain ⟨nm, q, N, bs, bm, sn, sub, ab, col, dd, k0, k1, k2, k3, k5, hC, hbm⟩ := T.cls
  have hcl : clsIn K C = some { name := nm, bases := bs, mro := .ref C :: bm, ns := N, qualname := q, hasDict := true, slotNames := sn, subclasses := sub, abstract := ab, collection := col, hasDel := false } := by unfold clsIn; rw [hC] <;> rfl
  refine Att.call_fn (binds := [("self", .ref x), ("line", v)]) X hlim ho hcd hroom (BindsTo.of_eq (by first | rfl | with_unfolding_all rfl)) (by first | rfl | decide | with_unfolding_all rfl) (fun s₁ IC => ?_) rfl rfl rfl
  obtain ⟨h₁, tk₁, rfl⟩ := IC.toInCall.same
  have k : ∀ b o, s.heap.get? b = some o → h₁.get? b = some o := IC.toInCall.keep
  have hn := IC.toInCall.ns
  have hxL : s.heap.objs.size ≠ x := Nat.ne_of_gt (Heap.lt_size hx)
  have X₁ : K.In h₁ := X.keeps k
  have hx₁ := k _ _ hx
  -- self.by = by
  show wpAny _ _ (execs _ _) _ _ _
  refine wpAny_execs_cons (plainObj_wpAny_Assign_Attribute ?_)
  refine ldC (v := v) hn (by first | rfl | with_unfolding_all rfl | kernel_rfl) (ldC (v := .ref x) hn (by first | rfl | with_unfolding_all rfl | kernel_rfl) ?_)
  refine set_plain X₁ (ox := excO C t0) (od := none) ⟨hx₁, rfl, rfl, trivial⟩ T.sa ?_
  refine exc_osa X₁ hx₁ hcl (show refsVE (.ref C :: bm) = true from hbm) rfl T.noN (fun h₃ tk₃ dx k₃ dn dne hx₃ hn₃ => ?_)
  show wpAny _ _ (execs _ _) _ _ _
  have z : s.heap.objs.size < h₁.objs.size := hn.lt
  exact wpAny_execs_nil (hq h₃ tk₃ dx ⟨fun b o hb e => k₃ b o hb (k b o e), hx₃, Nat.le_of_lt (Nat.lt_of_lt_of_le z dn), dne, hn₃⟩)
theorem bt_made (T : BtTxt K mg C fI) {v : Value} (X : K.In s.heap) (hlim : s.heap.NoLimit) (hroom : A.depth + 1 < recursionLimit)
    (hq : ∀ h' tk e d, OwnMade s.heap h' e C d v → R (.ok (.ret (.ref e))) { s with heap := h', toks := tk }) :
    codeAny (model prog w) A (.call (.ref C) ⟨[v], []⟩) R s := by
  obtain ⟨nm, q, N, bs, bm, sn, sub, ab, col, dd, k0, k1, k2, k3, k5, hC, hbm⟩ := T.cls
  obtain ⟨hp, g, dr, tk, os⟩ := s
  have k : ∀ b o, hp.get? b = some o → ((hp.push (kdv_tup [v])).push (excO C hp.objs.size)).get? b = some o := fun b o e => Heap.get?_push_of_some _ (Heap.get?_push_of_some _ e)
  have hget : ((hp.push (kdv_tup [v])).push (excO C hp.objs.size)).get? (hp.objs.size + 1) = some (excO C hp.objs.size) := by heap_get
  have hnx : K.lookup (hp.objs.size + 1) = none := by
    cases e : K.lookup (hp.objs.size + 1) with
    | none => rfl
    | some o =>
      have z : hp.get? (hp.objs.size + 1) = some o := X _ _ e
      exact absurd (Nat.lt_of_succ_lt (Heap.lt_size z)) (Nat.lt_irrefl _)
  refine call_own F.excBase_ValueError (fun X => refsVE_contains X bm hbm) (X _ _ hC) (looks_findIn X T.iC) (fun self => bind_fn X self T.tC) (one_size v) ?_
  refine bt_init (s := ⟨(hp.push (kdv_tup [v])).push (excO C hp.objs.size), g, dr, tk, os⟩) T (X.keeps k) (hlim.keeps k) hget hnx ?_ fun h' tk' dx ⟨k', hx, dn, dne, hns⟩ => ?_
  · show A.depth + 1 < recursionLimit
    exact hroom
  · have old : ∀ b o, hp.get? b = some o → h'.get? b = some o := fun b o e => k' b o (Nat.ne_of_lt (Nat.lt_succ_of_lt (Heap.lt_size e))) (k b o e)
    have z : hp.objs.size + 1 + 1 ≤ dx := by
      first
        | (simpa only [Heap.size_push] using dn)
        | exact dn
        | (have q := dn; rw [Heap.size_push, Heap.size_push] at q; exact q)
    exact ⟨rfl, hq h' tk' (hp.objs.size + 1) dx ⟨old, Nat.le_succ _, ⟨_, _, hx, rfl, rfl, rfl, rfl⟩, Nat.le_trans (Nat.le_trans (Nat.le_succ _) (Nat.le_succ _)) z, dne, hns⟩⟩
end
end BtX
end PySem
namespace L2
open PySem PySem.Spec PyProof.Rows
theorem relO_bt {v : V} {v' : Value} (r : RelV v v') (f : Str) : RelO (List.lookup f [(("line" : Str), v)]) (if f = "line" then some v' else none) := by
  by_cases hw : f = "line"
  · subst hw
    rw [if_pos rfl]
    have q : List.lookup ("line" : Str) [(("line" : Str), v)] = some v := by simp [List.lookup]
    rw [q]
    exact r
  · rw [if_neg hw]
    have qw : (f == ("line" : Str)) = false := by simpa using hw
    have q2 : List.lookup f [(("line" : Str), v)] = none := by simp [List.lookup, qw]
    rw [q2]
    trivial
section
variable {X : Cx} {C fI : Addr}
/-- BadText(e) -/
def tMkBt (C : Addr) (ta : TA) : St → Hp → XK → Prop := fun σ H Q => ta σ H fun vs H1 => ∃ v, vs = [v] ∧ ∀ d, H1 d = none → Q (.ref C) (some d) (upd H1 d (.xd [(("line" : Str), v)]))
theorem pmk_bt {a : Expr} {ta : TA} {p pos : Pos} {k : Nat} (T : PySem.BtX.BtTxt X.K X.mg C fI) (hr : Room k X.A) (ha : PA X [a] ta) (hg : Gl X "BadText" := by rfl)
    (he : starEach (a :: []) X.env = (false, eval a X.env) :: starEach [] X.env := by rfl) (hpl : (backTo pos (starEach [] X.env)).any (·.1) = false := by rfl) :
    PMk X (.Call (.Name "BadText" p) [a] [] pos) (tMkBt C ta) := by
  intro pins s σ H Q I h
  refine wpAny_Call_Name_kw (ld_glob I hg T.gC ?_)
  refine PySem.W.callWith_K (h₀ := X.base) I.ok.mod.kin T.kC (thn (ha.run pos pins s σ H _ I h) fun us s1 hh => ?_) he hpl
  obtain ⟨vs, H1, I1, r1, v, ev, q1⟩ := hh
  subst ev
  refine ⟨I1.kIn, ?_⟩
  cases r1 with
  | cons rv rn =>
    rename_i v' us'
    cases rn
    show wpAny _ _ (call (.ref C) [v']) _ _ _
    have hlim := I1.nolimit
    obtain ⟨hp, g, dr, tk, os⟩ := s1
    refine wpAny_call (PySem.BtX.bt_made T I1.kIn hlim (by have := hr.dp; omega) fun h' tk' e d M => ?_)
    show MkP X pins σ Q (.ref e) ⟨h', g, dr, tk', os⟩
    obtain ⟨oe, fv, hoe, hc, hd, hdat, h1⟩ := M.obj
    have hns := M.ns
    obtain ⟨G', g1, g2⟩ := restrict h' fun b => decide (b ≠ e)
    have gk : ∀ b, b ≠ e → G'.get? b = h'.get? b := fun b hb => g1 b (decide_eq_true hb)
    have ge : G'.get? e = none := g2 e (by simp)
    have old : ∀ b o, hp.get? b = some o → G'.get? b = some o := fun b o q => (gk b (Nat.ne_of_lt (Nat.lt_of_lt_of_le (Heap.lt_size q) M.new))).trans (M.keep b o q)
    have ob : ObjOk X.prog X.w (upd H1 d (.xd [(("line" : Str), v)])) G' d (.xd [(("line" : Str), v)]) :=
      ⟨_, hns.at (fun o q => (gk d M.dne).trans q), fun f => relO_bt rv f⟩
    have J : Inv X pins σ (upd H1 d (.xd [(("line" : Str), v)])) ⟨G', g, dr, tk', os⟩ := I1.laid (t' := tk') old M.dbig ob
    refine ⟨e, oe, fv, ⟨G', g, dr, tk', os⟩, _, .ref C, some d, rfl, J, fun b o q => ?_, ge, hoe, ⟨hc, hd⟩, hdat, h1, ?_, rfl, I1.bare, raises_own T.exC T.tyC, q1 d (I1.hok.fresh M.dbig)⟩
    · by_cases hb : b = e
      · have q' : G'.get? b = some o := q
        rw [hb, ge] at q'; cases q'
      · exact (gk b hb).symm.trans q
    · rw [upd_ne (Ne.symm M.dne)]
      exact I1.hok.fresh M.new
/-- raise BadText(e) -/
def tRaiseBt (C : Addr) (W : WX) (ta : TA) : TS := fun _ σ H => tMkBt C ta σ H fun cls d H' => W cls d σ H'
theorem ps_raiseBt {a : Expr} {ta : TA} {W : WX} {p pos pos2 : Pos} {k : Nat} (hc : X.calm = true) (T : PySem.BtX.BtTxt X.K X.mg C fI) (hr : Room k X.A) (tk : Takes X W) (ha : PA X [a] ta) (hg : Gl X "BadText" := by rfl)
    (he : starEach (a :: []) X.env = (false, eval a X.env) :: starEach [] X.env := by rfl) (hpl : (backTo pos (starEach [] X.env)).any (·.1) = false := by rfl) :
    PS X (.Raise (some (.Call (.Name "BadText" p) [a] [] pos)) none pos2) (tRaiseBt C W ta) := ps_raise hc tk (pmk_bt T hr ha hg he hpl)
end
end L2
namespace L2
open PySem PySem.Spec PyProof.Rows
section
variable {X : Cx} {C : Addr} {bmB : List Value} {B newId initId : String}
/-- X() -/
theorem pmk_own0 {x : Str} {p pos : Pos} (F : ExcBaseFacts B newId initId bmB) (q : PySem.W.excIn X.K C bmB newId = true) (gC : X.mg x = some (.ref C)) (kC : PySem.W.keepIn X.K (.ref C) = true) (r : Raises X (.ref C)) (hg : Gl X x)
    (hdb : (x == ("__debug__" : Str)) = false := by decide) : PMk X (.Call (.Name x p) [] [] pos) (fun _ H Q => Q (.ref C) none H) := by
  intro pins s σ H Q I h
  refine wpAny_Call_Name_kw (ld_glob I hg gC ?_ hdb)
  refine PySem.W.callWith_K0 I.kIn kC ?_
  show wpAny _ _ (call (.ref C) []) _ _ _
  obtain ⟨bm, N, nm, qn, bs, hdct, sn, sub, ab, col, dd, k0, k1, k2, k3, k5, mN, hC, hN, hni, T⟩ := exc_obj I.kIn q
  refine wpAny_call_exc_subT F T hC hN hni (fun h' e hm => ?_) (by show 0 ≤ sizeLine; exact Nat.zero_le _)
  exact mk_of I hm r h (I.hok.gone hm.new)
end
end L2
namespace Zd
open PySem PySem.Spec PyProof.Rows L2
/-- what the written part says of BadStory -/
structure StX (K : PySem.W.Frag) (mg : Str → Option Value) (C : Addr) : Prop where
  g : mg "BadStory" = some (.ref C)
  x : PySem.W.excIn K C [.type "ValueError", .type "Exception", .type "BaseException", .type "object"] "ValueError.__new__" = true
  k : PySem.W.keepIn K (.ref C) = true
  s : PySem.W.subIn K (.ref C) (.type "BaseException") = some true
  t : PySem.W.typeIn K (.ref C) = some (.type "type")
section
variable {X : Cx} {c : Cg} {E : XK} {ds : List Sl} {M M1 : Mp} {a : Expr} {pos pos2 p : Pos}
theorem s_raiseT {n : Int} {fI : Addr} {k : Nat} (hc : X.calm = true) (T : PySem.BtX.BtTxt c.K X.mg c.CT fI) (hr : Room k X.A) (tk : Takes X (fun cls d _ H => E cls d H)) (ha : PE X a (tD c ds M (I n) M1)) (hg : Gl X "BadText" := by rfl) (hK : X.K = c.K := by rfl)
    (he : starEach [a] X.env = (false, eval a X.env) :: starEach [] X.env := by rfl) (hpl : (backTo pos (starEach [] X.env)).any (·.1) = false := by rfl) :
    PS X (.Raise (some (.Call (.Name "BadText" p) [a] [] pos)) none pos2) (tS c E ds M (.ex (.text n) M1)) := by
  rw [← hK] at T
  refine PS.to (ps_raiseBt hc T hr tk (ds_cons ha ds_nil he) hg he hpl) fun D σ H ⟨B, w, s, q⟩ => ⟨B, w, s, fun vs B1 H1 g sv => ?_⟩
  cases sv with
  | cons s1 s2 =>
    cases s2
    cases s1
    refine ⟨_, rfl, fun d hd => ?_⟩
    exact q d _ _ (g.trans (Go.newX g.w hd)) upd_same
theorem s_raiseS (hc : X.calm = true) (T : StX c.K X.mg c.CS) (tk : Takes X (fun cls d _ H => E cls d H)) (hg : Gl X "BadStory" := by rfl) (hK : X.K = c.K := by rfl) :
    PS X (.Raise (some (.Call (.Name "BadStory" p) [] [] pos)) none pos2) (tS c E ds M (.ex .story M)) := by
  rw [← hK] at T
  exact PS.to (ps_raise hc tk (pmk_own0 PySem.F.excBase_ValueError T.x T.g T.k (raises_own T.s T.t) hg)) fun D σ H ⟨B, w, s, q⟩ => q H B (Go.refl w)
end
end Zd
end
/-! ## Z8 -/
section
set_option Elab.async false
set_option linter.all false
set_option maxRecDepth 100000
set_option maxHeartbeats 4000000
/-! sorted(set(..)) of ints. -/
namespace L2
open PySem PySem.Spec PyProof.Rows
section
variable {P : Program} {w : World} {A : Around} {E : Value → Shared → Prop} {s : Shared}
set_option maxRecDepth 100000 in
set_option maxHeartbeats 3200000 in
theorem set_list_ints {l : Addr} {items : Array Value} (ns : List Int) {Q : Value → Shared → Prop} (hh : A.handled = none) (hl : s.heap.IsList l items) (hit : IntsAre items.toList ns) (hb : ns.length + 1 < scanBound)
    (h : ∀ (h' : Heap) (tk c : Nat), SetR w h' s.heap.objs.size (fun j => decide (j ∈ ns)) c → c ≤ ns.length → (∀ b o, s.heap.get? b = some o → h'.get? b = some o) → Q (.ref s.heap.objs.size) { s with heap := h', toks := tk }) :
    wpAny (model P w) A (call (.type "set") [.ref l]) Q E s := by
  have hisz : items.size = ns.length := by
    have q := IntsAre.length hit
    rw [Array.length_toList] at q
    exact q
  obtain ⟨c, tl, hmro⟩ := F.called_set.mro
  have hmade := F.called_set.made
  have hsub := F.called_set.sub
  refine wpAny_call (codeAny_of_tree ?_)
  show wpAny _ _ (callAny (.type "set") _) _ _ _
  refine wpAny_pure ⟨Code.quiet_builtin _ (by decide +kernel), codeAny_builtin F.entry_type_call ?_⟩
  rw [Around.under_plain (weight_type_call_type "set" [.ref l] []) rfl]
  have h1 := F.called_set.notType
  have h2 := F.called_set.canCreate
  have hct := F.typeCall_set_1 (.ref l)
  repeat (any_goals (first | assumption | wp_step))

  refine codeAny_mono (code_set_led1 (.ref l) (E := E) (Q₁ := fun obj s₁ => obj = .ref s.heap.objs.size ∧ s₁ = { s with heap := s.heap.push { cls := .type "set", dict := none, data := .set #[] 0 (.fresh 0 0 (!w.params.followText "set-order")) } }) ⟨rfl, rfl⟩) fun r s₁ hr => ?_
  cases r with
  | error e => exact hr
  | ok fl =>
    cases fl with
    | ret obj =>
      obtain ⟨rfl, rfl⟩ := hr
      have hS : (s.heap.push { cls := .type "set", dict := none, data := .set #[] 0 (.fresh 0 0 (!w.params.followText "set-order")) }).get? s.heap.objs.size = some { cls := .type "set", dict := none, data := .set #[] 0 (.fresh 0 0 (!w.params.followText "set-order")) } := Heap.get?_push_size _ rfl
      have hT : Shared.TypeIs { s with heap := s.heap.push { cls := .type "set", dict := none, data := .set #[] 0 (.fresh 0 0 (!w.params.followText "set-order")) } } (.ref s.heap.objs.size) "set" := ⟨_, hS, rfl⟩
      have hli := F.called_set.init.lookup
      have hbi := F.called_set.init.bind (.ref s.heap.objs.size)
      repeat (any_goals (first | assumption | wp_step))

      refine codeAny_mono (codeAny_call_builtin (R := wants (fun r s₂ => r = .none ∧ ∃ h' tk c, s₂ = { s with heap := h', toks := tk } ∧ SetR w h' s.heap.objs.size (fun j => decide (j ∈ ns)) c ∧ c ≤ ns.length ∧
          (∀ b o, s.heap.get? b = some o → h'.get? b = some o)) E) F.called_set.init.plain F.entry_set_init (check_set_init_1 hT ?_)) fun r₂ s₂ hr₂ => ?_
      · obtain ⟨ol, hol, hcl, nl, hdl⟩ := hl
        obtain ⟨ocls, odict, odata, oslots⟩ := ol
        simp only at hcl hdl
        subst hcl; subst hdl
        have hol' : (s.heap.push { cls := .type "set", dict := none, data := .set #[] 0 (.fresh 0 0 (!w.params.followText "set-order")) }).get? l = some { cls := .type "list", dict := odict, data := .seq items nl, slots := oslots } := Heap.get?_push_of_some _ hol
        have hsls := F.sub_list_set
        have hslf := F.sub_list_frozenset
        have hne : (Value.type "list" == Value.type "dict") = false := by decide
        have hl1 : (s.heap.push { cls := .type "set", dict := none, data := .set #[] 0 (.fresh 0 0 (!w.params.followText "set-order")) }).IsList l items := ⟨_, hol', rfl, nl, rfl⟩
        unfold Builtin.«set.__init__» noKeywords Builtin.Frozenset.updateFrom
        generalize hPI : pyIter = PI
        wp_walk
        subst hPI

        refine wpAny_pyIter_list hl1 ?_
        refine wpAny_bind (wpAny_runValue ?_)
        have hlS : l < s.heap.objs.size := Heap.lt_size hol
        have hh3 : A.in1.in1.in1.handled = none := by simp [hh]
        have hz1 : (s.heap.push { cls := .type "set", dict := none, data := .set #[] 0 (.fresh 0 0 (!w.params.followText "set-order")) }).objs.size = s.heap.objs.size + 1 := Heap.size_push ..
        have hneI : l ≠ (s.heap.push { cls := .type "set", dict := none, data := .set #[] 0 (.fresh 0 0 (!w.params.followText "set-order")) }).objs.size := by
          rw [Heap.size_push]; exact Nat.ne_of_lt (Nat.lt_succ_of_lt hlS)
        have hSf : s.heap.objs.size ∉ [(s.heap.push { cls := .type "set", dict := none, data := .set #[] 0 (.fresh 0 0 (!w.params.followText "set-order")) }).objs.size, l] := by
          rw [Heap.size_push]; simp only [List.mem_cons, List.mem_singleton, List.not_mem_nil, or_false, not_or]
          exact ⟨Nat.ne_of_lt (Nat.lt_succ_self _), Nat.ne_of_gt hlS⟩
        have hval : ∀ (i : Nat) (v : Value), items[i]? = some v → ∃ k t, ns[i]? = some k ∧ v = .int k t := fun i v hv => by
          have hi : i < ns.length := by rw [← hisz]; exact (Array.getElem?_eq_some_iff.mp hv).1
          obtain ⟨t, e⟩ := PyProof.Rows.IntsAre.int_at hit i v (by rw [Array.getElem?_toList]; exact hv)
          refine ⟨ns[i], t, List.getElem?_eq_getElem hi, ?_⟩
          rw [e, List.getD_eq_getElem?_getD, List.getElem?_eq_getElem hi] <;> rfl
        refine set_update_ints ((Walks.list hh3 _ l hneI items).toS) s.heap.objs.size
          hSf ns hisz hb hval (items.size - 0) 0 _ (by omega) (Nat.zero_le _)
          ⟨⟨_, Heap.get?_push_size _ rfl, rfl, rfl⟩, (hl1.push _)⟩ ?hS0 ?hR
        case hS0 =>
          have hget : ((s.heap.push { cls := .type "set", dict := none, data := .set #[] 0 (.fresh 0 0 (!w.params.followText "set-order")) }).push { cls := .type "list_iterator", data := .fields #[.ref l, .int 0 0] }).get? s.heap.objs.size
              = some { cls := .type "set", dict := none, data := .set #[] 0 (.fresh 0 0 (!w.params.followText "set-order")) } := Heap.get?_push_of_some _ hS
          exact ⟨0, Nat.le_refl 0, setR_new_at hget⟩
        case hR =>
          intro s' c' hm hc' hS'
          obtain ⟨h', g2, d', tk', os'⟩ := s'
          have eg : g2 = s.gens := hm.gens
          have ed : d' = s.drawn := hm.drawn
          have eo : os' = s.os := hm.os
          subst eg; subst ed; subst eo
          show wpAny _ _ _ _ _ _
          refine wpAny_pure ?_
          show wpAny _ _ (ret Value.none) _ _ _
          rw [hisz] at hc'
          refine wpAny_pure ⟨rfl, h', tk', c', rfl, hS', hc', fun b o e => ?_⟩
          have hb0 : b < s.heap.objs.size := Heap.lt_size e
          have hb1 : b ≠ s.heap.objs.size := Nat.ne_of_lt hb0
          have hb2 : b ≠ (s.heap.push { cls := .type "set", dict := none, data := .set #[] 0 (.fresh 0 0 (!w.params.followText "set-order")) }).objs.size := by
            rw [Heap.size_push]; exact Nat.ne_of_lt (Nat.lt_succ_of_lt hb0)
          exact hm.heap b o (by simp only [List.mem_cons, List.mem_singleton, List.not_mem_nil, or_false, not_or]; exact ⟨hb1, hb2⟩) (Heap.get?_push_of_some _ (Heap.get?_push_of_some _ e))

      · cases r₂ with
        | error e => exact hr₂
        | ok fl₂ =>
          cases fl₂ with
          | ret r =>
            obtain ⟨rfl, h', tk, c', rfl, hS', hc', hk'⟩ := hr₂
            repeat (any_goals (first | assumption | wp_step))
            exact h _ _ _ hS' hc' hk'
          | _ => exact hr₂.elim
    | _ => exact hr.elim

end
end L2
namespace Zd
open PySem PySem.Spec PyProof.Rows L2
def insU (k : Int) : List Int → List Int
  | [] => [k]
  | a :: l => if k < a then k :: a :: l else if k = a then a :: l else a :: insU k l
/-- the members, ascending -/
def sortU : List Int → List Int
  | [] => []
  | k :: l => insU k (sortU l)
theorem insU_mem {k x : Int} : ∀ l : List Int, x ∈ insU k l ↔ x = k ∨ x ∈ l
  | [] => by simp [insU]
  | a :: l => by
    unfold insU
    split
    · simp
    · split
      · rename_i h
        rw [h]
        simp
      · rw [List.mem_cons, insU_mem l, List.mem_cons]
        constructor
        · rintro (h | h | h)
          · exact .inr (.inl h)
          · exact .inl h
          · exact .inr (.inr h)
        · rintro (h | h | h)
          · exact .inr (.inl h)
          · exact .inl h
          · exact .inr (.inr h)
theorem insU_lt {k : Int} : ∀ l : List Int, l.Pairwise (· < ·) → (insU k l).Pairwise (· < ·)
  | [], _ => by simp [insU]
  | a :: l, h => by
    obtain ⟨h1, h2⟩ := List.pairwise_cons.mp h
    unfold insU
    split
    · rename_i hk
      refine List.pairwise_cons.mpr ⟨fun x hx => ?_, h⟩
      rcases List.mem_cons.mp hx with e | e
      · omega
      · have := h1 x e
        omega
    · split
      · exact h
      · refine List.pairwise_cons.mpr ⟨fun x hx => ?_, insU_lt l h2⟩
        rcases (insU_mem l).mp hx with e | e
        · omega
        · exact h1 x e
theorem sortU_mem {x : Int} : ∀ l : List Int, x ∈ sortU l ↔ x ∈ l
  | [] => Iff.rfl
  | k :: l => by
    show x ∈ insU k (sortU l) ↔ _
    rw [insU_mem, sortU_mem l, List.mem_cons]
theorem sortU_lt : ∀ l : List Int, (sortU l).Pairwise (· < ·)
  | [] => List.Pairwise.nil
  | k :: l => insU_lt _ (sortU_lt l)
theorem lt_unique : ∀ (l m : List Int), l.Pairwise (· < ·) → m.Pairwise (· < ·) → (∀ k, k ∈ l ↔ k ∈ m) → l = m
  | [], [], _, _, _ => rfl
  | [], b :: m, _, _, h => absurd ((h b).mpr List.mem_cons_self) (by simp)
  | a :: l, [], _, _, h => absurd ((h a).mp List.mem_cons_self) (by simp)
  | a :: l, b :: m, h1, h2, h => by
    obtain ⟨a1, a2⟩ := List.pairwise_cons.mp h1
    obtain ⟨b1, b2⟩ := List.pairwise_cons.mp h2
    have e : a = b := by
      rcases List.mem_cons.mp ((h a).mp List.mem_cons_self) with e | e
      · exact e
      · rcases List.mem_cons.mp ((h b).mpr List.mem_cons_self) with e2 | e2
        · exact e2.symm
        · have := b1 a e
          have := a1 b e2
          omega
    subst e
    refine congrArg (a :: ·) (lt_unique l m a2 b2 fun k => ⟨fun hk => ?_, fun hk => ?_⟩)
    · rcases List.mem_cons.mp ((h k).mp (List.mem_cons_of_mem _ hk)) with e | e
      · have := a1 k hk
        omega
      · exact e
    · rcases List.mem_cons.mp ((h k).mpr (List.mem_cons_of_mem _ hk)) with e | e
      · have := b1 k hk
        omega
      · exact e
section
variable {X : Cx} {c : Cg} {ds : List Sl} {M M1 : Mp} {a : Expr} {pos p p2 q : Pos}
theorem srt_fin {pins : List (Addr × Obj)} {σ : L2.St} {H1 B1 : Hp} {s1 : Shared} {ns : List Int} {h' : Heap} {tk cc : Nat} {Q : VK} {M1 : Mp} (I1 : Inv X pins σ H1 s1) (w1 : Wd c B1 M1 H1) (hc : X.calm = true) (hl : ns.length < 60)
    (R : SetR X.w h' s1.heap.objs.size (fun j => decide (j ∈ ns)) cc) (hcc : cc ≤ ns.length) (k1 : ∀ b o, s1.heap.get? b = some o → h'.get? b = some o)
    (hq : ∀ v B' H', Go c M1 H1 B1 M1 H' B' → SlV B' (.dat (.list ((sortU ns).map PyData.int))) v → Q v H') :
    wpAny (model X.prog X.w) X.A (call (.builtin "sorted") [.ref s1.heap.objs.size]) (EP X pins σ Q) X.xe { s1 with heap := h', toks := tk } := by
  refine sorted_set (s := { s1 with heap := h', toks := tk }) R (I1.ok.hd hc) (by omega) fun s' p out c2 ms k g o hp hg hi hs hm hlen => ?_
  have hz : (ms.map V.int).length ≤ sizeLine := by rw [List.length_map, hlen, sizeLine_eq]; omega
  have kk : ∀ b o, s1.heap.get? b = some o → s'.heap.get? b = some o := fun b o e => k b o (k1 b o e)
  have sz : s1.heap.objs.size ≤ p := Nat.le_trans (Nat.le_of_lt (show s1.heap.objs.size < h'.objs.size from R.lt)) hp
  have hn : H1 p = none := I1.hok.fresh sz
  have J : Inv X pins σ (upd H1 p (.lst (ms.map V.int))) { s1 with heap := s'.heap, gens := s'.gens, drawn := s'.drawn, toks := s'.toks } :=
    I1.call (ch := []) (Un.laid kk sz hn) (I1.hok.laid kk sz ⟨hz, out.toList, c2, vals_of_ints hi, hg⟩) (by rw [g]; exact I1.bare) (fun _ z => nomatch z)
  rw [GxR.sh_eta s1 s' o] at J
  have e : ms = sortU ns := lt_unique _ _ hs (sortU_lt ns) fun k => by rw [hm k, decide_eq_true_iff, sortU_mem]
  obtain ⟨g2, r2⟩ := new_lst w1 (dpa_ofInts ms) hn
  exact ⟨.ref p, _, J, rfl, hq _ _ _ g2 (by rw [← e]; exact r2)⟩
theorem d_sortSetT {ns : List Int} (ha : PE X a (tD c ds M (.dat (.tuple (ns.map PyData.int))) M1)) (hl : ns.length < 60) (hm : X.mg "sorted" = none) (hm2 : X.mg "set" = none) (hg : Gl X "sorted" := by rfl) (hg2 : Gl X "set" := by rfl) (hc : X.calm = true := by rfl) (hK : X.K = c.K := by rfl)
    (na : starEach [a] X.env = (false, eval a X.env) :: starEach [] X.env := by rfl) : PE X (.Call (.Name "sorted" p) [.Call (.Name "set" p2) [a] [] q] [] pos) (tD c ds M (.dat (.list ((sortU ns).map PyData.int))) M1) := by
  refine ⟨fun pins s σ H Q I h => ?_⟩
  obtain ⟨B, w, sl, q0⟩ := h
  refine Call_ (ld_blt (u := .builtin "sorted") I hg hm (by decide +kernel) ?_)
  refine PyProof.Rows.callWith_builtin1 (PyProof.Rows.args_cons ?_ rfl) rfl rfl
  refine Call_ (ld_blt (u := .type "set") I hg2 hm2 (by decide +kernel) ?_)
  refine PyProof.Rows.callWith_type1 (PyProof.Rows.args_cons (thn (ha.run pins s σ H _ I ⟨B, w, sl, fun v B' H' g sv => (⟨B', g, sv⟩ : ∃ B', Go c M H B M1 H' B' ∧ SlV B' (.dat (.tuple (ns.map PyData.int))) v)⟩) fun v s1 hx => PyProof.Rows.args_nil ?_) na) na rfl
  obtain ⟨x, H1, I1, r1, B1, g1, sv⟩ := hx
  cases sv with
  | @tup ad us _ hb ha1 =>
    cases r1
    have eu := dpa_ints ha1
    subst eu
    obtain ⟨its, rv, ht, _⟩ := I1.tuple (show SqT X.K H1 ad _ from .inl (.inl (g1.w.b _ _ hb).2.2))
    refine call_set_tupI ns (I1.ok.hd hc) (show s1.heap.IsTuple ad its.toArray from ht) (RZ.intsAre_vals rv) (Nat.lt_of_le_of_lt (show ns.length + 1 ≤ 60 from hl) (by decide)) fun h' tk cc R hcc k1 => PyProof.Rows.args_nil ?_
    exact srt_fin I1 g1.w hc hl R hcc k1 fun v B' H' g sv => q0 v B' H' (g1.trans g) sv
theorem d_sortSetL {ns : List Int} (ha : PE X a (tD c ds M (.dat (.list (ns.map PyData.int))) M1)) (hl : ns.length < 60) (hm : X.mg "sorted" = none) (hm2 : X.mg "set" = none) (hg : Gl X "sorted" := by rfl) (hg2 : Gl X "set" := by rfl) (hc : X.calm = true := by rfl) (hK : X.K = c.K := by rfl)
    (na : starEach [a] X.env = (false, eval a X.env) :: starEach [] X.env := by rfl) : PE X (.Call (.Name "sorted" p) [.Call (.Name "set" p2) [a] [] q] [] pos) (tD c ds M (.dat (.list ((sortU ns).map PyData.int))) M1) := by
  refine ⟨fun pins s σ H Q I h => ?_⟩
  obtain ⟨B, w, sl, q0⟩ := h
  refine Call_ (ld_blt (u := .builtin "sorted") I hg hm (by decide +kernel) ?_)
  refine PyProof.Rows.callWith_builtin1 (PyProof.Rows.args_cons ?_ rfl) rfl rfl
  refine Call_ (ld_blt (u := .type "set") I hg2 hm2 (by decide +kernel) ?_)
  refine PyProof.Rows.callWith_type1 (PyProof.Rows.args_cons (thn (ha.run pins s σ H _ I ⟨B, w, sl, fun v B' H' g sv => (⟨B', g, sv⟩ : ∃ B', Go c M H B M1 H' B' ∧ SlV B' (.dat (.list (ns.map PyData.int))) v)⟩) fun v s1 hx => PyProof.Rows.args_nil ?_) na) na rfl
  obtain ⟨x, H1, I1, r1, B1, g1, sv⟩ := hx
  cases sv with
  | @lst ad us _ hb ha1 =>
    cases r1
    have eu := dpa_ints ha1
    subst eu
    obtain ⟨its, rv, ht, _⟩ := I1.list (show SqL X.K H1 ad _ from .inl (.inl (g1.w.b _ _ hb).2.2))
    refine set_list_ints ns (I1.ok.hd hc) ht.isList (RZ.intsAre_vals rv) (Nat.lt_of_le_of_lt (show ns.length + 1 ≤ 60 from hl) (by decide)) fun h' tk cc R hcc k1 => PyProof.Rows.args_nil ?_
    exact srt_fin I1 g1.w hc hl R hcc k1 fun v B' H' g sv => q0 v B' H' (g1.trans g) sv
end
end Zd
end
/-! ## Z9 -/
section
set_option Elab.async false
set_option linter.all false
set_option maxRecDepth 100000
set_option maxHeartbeats 4000000
/-! A list made and lengthened; sorted data; objects made, their methods. -/
namespace Zd
open PySem PySem.Spec PyProof.Rows L2
section
variable {c : Cg} {H B H1 B1 H2 B2 : Hp} {M M1 M2 : Mp}
/-- what is new and held is forgotten -/
theorem Go.forget (g : Go c M H B M1 H1 B1) (h : ∀ a o, M a = some o → M1 a = some o) : Go c M H B M H1 B1 where
  w := {
    b := fun a o e => by
      obtain ⟨x, y, z⟩ := g.w.b a o e
      refine ⟨x, ?_, z⟩
      cases q : M a with
      | none => rfl
      | some u => rw [h a u q] at y; cases y
    m := fun a o e => g.w.m a o (h a o e)
    t := g.w.t }
  b := g.b
  f := g.f
  g := fun _ _ _ e => e
  p := g.p
  n := g.n
theorem Go.fresh (g : Go c M H B M1 H1 B1) {p : Addr} (h : H1 p = none) : H p = none := by
  cases e : H p with
  | none => rfl
  | some o =>
    obtain ⟨o', e'⟩ := g.p p o e
    rw [h] at e'
    cases e'
end
section
variable {X : Cx} {c : Cg} {E : XK} {ds ds1 ds2 : List Sl} {M M1 M2 M3 : Mp} {a b e tg iter : Expr} {d d1 d2 d3 : Sl} {pos : Pos} {o o1 : Out} {st : Stmt} {rest body : List Stmt}
/-- x = [..]; x += [..] -/
theorem b_lstaug (i : Nat) {x : Str} {es1 es2 : List Expr} {as1 as2 : List Sl} {dd1 dd2 : List PyData} {p1 p2 p3 p4 p5 p6 : Pos} (hN : X.N.Nodup) (h1 : PA X es1 (tDs c ds M as1 M)) (h2 : PA X es2 (tDs c (ds.set i .no) M as2 M)) (hr : PSs X rest (tS c E (ds.set i (.dat (.list (dd1 ++ dd2)))) M o)) (hlt : i < ds.length)
    (hd1 : Dats as1 dd1 := by repeat (first | exact Dats.nil | apply Dats.cons)) (hd2 : Dats as2 dd2 := by repeat (first | exact Dats.nil | apply Dats.cons)) (hl : dd1.length + dd2.length ≤ 100000 := by exact Nat.le_of_ble_eq_true rfl)
    (hi : X.N[i]? = some x := by rfl) (hx : Loc X.env.scope x := by first | exact Or.inl rfl | exact Or.inr rfl) (hf : X.fn x = true ∨ X.env.scope.names.lookup x = some .local := by first | exact Or.inl rfl | exact Or.inr rfl) (hs : swapsWith (.List es1 p2) (some (.Name x p1)) p3.line X.env = pure false := by rfl) :
    PSs X (.Assign [.Name x p1] (.List es1 p2) p3 :: .AugAssign (.Name x p4) .Add (.List es2 p5) p6 :: rest) (tS c E ds M o) := by
  refine PSs.to (pss_cons (ps_set hN hi hx (pe_lst h1) hs hf) (pss_cons (ps_aug (ti := rExt2) hN hi hx (pe_lst h2) (fun pins s σ H x y u v Q I rx ry q => iop_ext pins s σ H x y u v Q I rx ry q) hf) hr)) fun D σ H ⟨B, w, s, q⟩ => ?_
  refine ⟨B, w, s, fun vs B1 H1 g1 s1 => ⟨by rw [← s1.len, hd1.len]; exact sz_ok (by omega), fun p hp => ?_⟩⟩
  have l1 := hd1.len
  have l2 := hd2.len
  have gx : Go c M H1 B1 M (upd H1 p (.lst vs)) B1 := Go.newX g1.w hp
  have sl : i < σ.length := by rw [← s.len]; exact hlt
  show ∃ x, (σ.set i (some (.ref p)))[i]? = some (some x) ∧ _
  refine ⟨.ref p, List.getElem?_set_self sl, B1, gx.w, Sls.set (d := .no) (o := some (.ref p)) True.intro i (s.mono g1.b), fun vs2 B2 H2 g2 s2 => ⟨by rw [← s2.len, hd2.len]; exact sz_ok (by omega), fun p2 hp2 => ?_⟩⟩
  have nB1 : B1 p = none := g1.w.freeB hp
  have nM : M p = none := g1.w.freeM hp
  have e2 : H2 p = some (.lst vs) := g2.f p _ upd_same nt_lst nM
  have nB2 : B2 p = none := g2.n p _ upd_same nB1
  have ne : p ≠ p2 := fun z => by rw [z, hp2] at e2; cases e2
  have g3 : Go c M H2 B2 M (upd H2 p2 (.lst vs2)) B2 := Go.newX g2.w hp2
  have e3 : upd H2 p2 (.lst vs2) p = some (.lst vs) := by rw [upd_ne ne]; exact e2
  refine ⟨p, p2, vs, vs2, rfl, rfl, e3, upd_same, by rw [← s1.len, ← s2.len, l1, l2]; exact sz_ok hl, ?_⟩
  have G := g1.trans (gx.trans (g2.trans g3))
  have h0 : H p = none := g1.fresh hp
  have G2 := Go.onX (o' := .lst (vs ++ vs2)) G h0 e3 (by rintro (⟨_, z⟩ | ⟨_, z⟩) <;> cases z) nB2 nM
  have G3 := Go.asB G2 h0 upd_same nt_lst nB2 nM
  show tS c E (ds.set i (.dat (.list (dd1 ++ dd2)))) M o D ((σ.set i (some (.ref p))).set i (some (.ref p))) _
  rw [List.set_set]
  refine ⟨_, G3.w, Sls.set (d := .dat (.list (dd1 ++ dd2))) ⟨_, rfl, ?_⟩ i (s.mono G3.b), KO.mono G3 q⟩
  exact .lst upd_same (dpa_mono (fun a o e => by rw [upd_ne (ne_of_none e nB2)]; exact e) _ _ (dpa_app (dpa_mono g2.b _ _ (rpa_dats hd1 s1)) (rpa_dats hd2 s2)))
/-! ### sorted data -/
theorem each_of {B : Hp} : ∀ {us : List Value} {xs : List V} {es : List PyData}, Vals xs us → RpA B xs es → PySem.W.EachIs (fun u d => ∃ x, RelV x u ∧ Rp B x d) us es
  | _, _, [], h, r => by
    cases r
    cases h
    exact .nil
  | _, _, d :: es, h, r => by
    cases r with
    | cons r1 r2 =>
      cases h with
      | cons h1 h2 => exact .cons ⟨_, h1, r1⟩ (each_of h2 r2)
theorem each_back {B : Hp} : ∀ {us : List Value} {es : List PyData}, PySem.W.EachIs (fun u d => ∃ x, RelV x u ∧ Rp B x d) us es → ∃ xs, Vals xs us ∧ RpA B xs es
  | _, _, .nil => ⟨[], .nil, .nil⟩
  | _, _, .cons ⟨x, a, b⟩ t => by
    obtain ⟨xs, h1, h2⟩ := each_back t
    exact ⟨x :: xs, .cons a h1, .cons b h2⟩
theorem d_sortD {es : List PyData} {p : Pos} {n : Nat} (ha : PE X a (tD c ds M (.dat (.list es)) M1)) (hal : PySem.W.AllAlike es) (hk : PySem.W.Sortable es) (hl : es.length ≤ 100000) (hdp : ∀ d ∈ es, d.depth ≤ 60) (hr : Room n X.A) (hm : X.mg "sorted" = none) (hg : Gl X "sorted" := by rfl) (hK : X.K = c.K := by rfl)
    (na : starEach [a] X.env = (false, eval a X.env) :: starEach [] X.env := by rfl) : PE X (.Call (.Name "sorted" p) [a] [] pos) (tD c ds M (.dat (.list (es.mergeSort (PySem.W.dataLe false id)))) M1) := by
  refine ⟨fun pins s σ H Q I h => ?_⟩
  obtain ⟨B, w, sl, q0⟩ := h
  refine Call_ (ld_blt (u := .builtin "sorted") I hg hm (by decide +kernel) ?_)
  refine PyProof.Rows.callWith_builtin1 (PyProof.Rows.args_cons (thn (ha.run pins s σ H _ I ⟨B, w, sl, fun v B' H' g sv => (⟨B', g, sv⟩ : ∃ B', Go c M H B M1 H' B' ∧ SlV B' (.dat (.list es)) v)⟩) fun v s1 hx => PyProof.Rows.args_nil ?_) na) na rfl
  obtain ⟨x, H1, I1, r1, B1, g1, sv⟩ := hx
  cases sv with
  | @lst ad us _ hb ha1 =>
    cases r1
    obtain ⟨its, rv, ht, _⟩ := I1.list (show SqL X.K H1 ad us from .inl (.inl (g1.w.b _ _ hb).2.2))
    have e1 := each_of rv ha1
    have hd := rpa_dp (K := X.K) (fun a o e => (g1.w.b a o e).2.2) es us ha1
    obtain ⟨as, rd⟩ := Dp.readsAll I1 es us its hd rv
    have er := PySem.W.readsAll_each (bs := es) id (by rw [List.map_id]; exact rd)
    refine PySem.W.sorted_data (enc := id) ht.isList e1 er (by rw [List.map_id]; exact hal) (by rw [List.map_id]; exact hk) (sz_ok hl) (fun d hd => by
      have := hdp d hd
      have := hr.un
      show X.A.units + 2 + d.depth < cLine
      omega) fun out lo eo => ?_
    obtain ⟨xs, v1, v2⟩ := each_back eo
    obtain ⟨ep, he'⟩ := PyProof.Rows.sortedAll_at s1.heap its out.toArray
    have hn : H1 (s1.heap.objs.size + 1) = none := I1.hok.fresh (Nat.le_succ _)
    have J : Inv X pins σ (upd H1 (s1.heap.objs.size + 1) (.lst xs)) { s1 with heap := sortedAll s1.heap its out.toArray } :=
      I1.laid (t' := s1.toks) (fun _ _ => PyProof.Rows.sortedAll_old) (Nat.le_succ _) ⟨by rw [v1.length, lo]; exact sz_ok hl, out, ep, v1, he'⟩
    obtain ⟨g2, r2⟩ := new_lst g1.w v2 hn
    exact ⟨.ref _, _, J, rfl, q0 _ _ _ (g1.trans g2) r2⟩
end
end Zd
end
/-! ## Z10 -/
section
set_option Elab.async false
set_option linter.all false
set_option maxRecDepth 100000
set_option maxHeartbeats 4000000
/-! Objects: made, their methods called. -/
namespace Zd
open PySem PySem.Spec PyProof.Rows L2
/-- what a method is worth -/
structure MeD (P : Program) (w : World) (c : Cg) (mg : Str → Option Value) (base : Heap) (C : Addr) (m : Str) (k : Nat) (R : List Sl → Mp → Out → Prop) : Prop where
  ok : ∃ (f : Addr) (fd : FuncData) (ps : List Str), FnOk P w c.K mg base (L2.CX P w) k f fd ps (spD c R) ∧ Meth c.K C m f ∧ L2.Binds c.K fd ps []
def MeAt (K : PySem.W.Frag) (C : Addr) (m qual : Str) (st : Stmt) (ps : List Str) : Prop := ∃ (f : Addr) (fd : FuncData), L2.Fun K m qual st f fd ∧ Meth K C m f ∧ L2.Binds K fd ps []
theorem me_mk {P : Program} {w : World} {c : Cg} {mg : Str → Option Value} {base : Heap} {C : Addr} {m qual : Str} {sd : Stmt} {N ps : List Str} {k : Nat} {R : List Sl → Mp → Out → Prop} (F : MeAt c.K C m qual sd ps) (S : FnScope N ps (defScope sd)) (hl : ∀ as M o, R as M o → as.length = ps.length)
    (body : ∀ (as : List Sl) (M : Mp) (o : Out), R as M o → ∀ (f : Addr) (cdv : Value) (A : Around) (outer : List Env) (s : Shared) (H : Hp) (E : XK), Room k (A.deeper (envOfC qual (defScope sd) s.heap.objs.size f cdv)) →
      ∃ o1, PSs (cxOf (L2.CX P w) P w c.K mg base N qual (defScope sd) f cdv A outer s H E) (defBody sd) (tS c E (as ++ List.replicate (N.length - as.length) .no) M o1) ∧ (o1 = o ∨ ∃ ds' M', o1 = .nx ds' M' ∧ o = .rt (.dat .none) M')) :
    MeD P w c mg base C m (k + 1) R := by
  obtain ⟨f, fd, F, m, b⟩ := F
  exact ⟨f, fd, ps, fn_def F S hl fun as M o hR cdv A outer s H E hr => body as M o hR f cdv A outer s H E hr, m, b⟩
/-- an __init__ -/
def InAt (K : PySem.W.Frag) (C : Addr) (qual : Str) (st : Stmt) (ps : List Str) : Prop := ∃ (f : Addr) (fd : FuncData), L2.Fun K "__init__" qual st f fd ∧ Mk K C f ∧ L2.Binds K fd ps []
structure InD (P : Program) (w : World) (c : Cg) (mg : Str → Option Value) (base : Heap) (C : Addr) (k : Nat) (R : List Sl → Mp → Out → Prop) : Prop where
  ok : ∃ (f : Addr) (fd : FuncData) (ps : List Str), FnOk P w c.K mg base (L2.CX P w) k f fd ps (spD c R) ∧ Mk c.K C f ∧ L2.Binds c.K fd ps []
theorem in_mk {P : Program} {w : World} {c : Cg} {mg : Str → Option Value} {base : Heap} {C : Addr} {qual : Str} {sd : Stmt} {N ps : List Str} {k : Nat} {R : List Sl → Mp → Out → Prop} (F : InAt c.K C qual sd ps) (S : FnScope N ps (defScope sd)) (hl : ∀ as M o, R as M o → as.length = ps.length)
    (body : ∀ (as : List Sl) (M : Mp) (o : Out), R as M o → ∀ (f : Addr) (cdv : Value) (A : Around) (outer : List Env) (s : Shared) (H : Hp) (E : XK), Room k (A.deeper (envOfC qual (defScope sd) s.heap.objs.size f cdv)) →
      ∃ o1, PSs (cxOf (L2.CX P w) P w c.K mg base N qual (defScope sd) f cdv A outer s H E) (defBody sd) (tS c E (as ++ List.replicate (N.length - as.length) .no) M o1) ∧ (o1 = o ∨ ∃ ds' M', o1 = .nx ds' M' ∧ o = .rt (.dat .none) M')) :
    InD P w c mg base C (k + 1) R := by
  obtain ⟨f, fd, F, m, b⟩ := F
  exact ⟨f, fd, ps, fn_def F S hl fun as M o hR cdv A outer s H E hr => body as M o hR f cdv A outer s H E hr, m, b⟩
section
variable {X : Cx} {c : Cg} {E : XK} {ds ds1 ds2 : List Sl} {M M1 M2 M3 : Mp} {a b e ob : Expr} {d d1 d2 d3 : Sl} {pos p apos : Pos} {o o1 : Out} {st : Stmt} {rest body : List Stmt} {es : List Expr}
/-- o.m(..), that raises nothing -/
theorem d_meth {m : Str} {k n : Nat} {R : List Sl → Mp → Out → Prop} {as : List Sl} {t C dx : Addr} {fs : List (Str × Sl)} (F : MeD X.prog X.w c X.mg X.base C m k R) (cl : Cls c.K C) (hr : Room n X.A) (ho : PE X ob (tD c ds M (.raw (.ref t)) M1)) (ht : M1 t = some (.ins C dx fs)) (hl : fs.lookup m = none) (ha : PA X (e :: es) (tDs c ds M1 as M2)) (hR : R (.raw (.ref t) :: as) M2 (.rt d M3)) (hm : k ≤ n := by decide)
    (hst : starEach (e :: es) X.env = (false, eval e X.env) :: starEach es X.env := by rfl) (hpl : (backTo pos (starEach es X.env)).any (·.1) = false := by rfl) (hK : X.K = c.K := by rfl) {pl : Sem Bool}
    (htt : eval (.Call (.Attribute ob m apos) (e :: es) [] pos) X.env = (do
      let ov ← eval ob X.env
      standAt apos.atName
      let (f, first) ← holding [ov] (getMethod ov m pl)
      callWith pos f first (backTo pos (starEach (e :: es) X.env)) (backToKw pos (keywordEach [] X.env))) := by rfl) : PE X (.Call (.Attribute ob m apos) (e :: es) [] pos) (tD c ds M d M3) := by
  obtain ⟨f, fd, ps, F, me, bi⟩ := F.ok
  rw [← hK] at F me bi cl
  refine PE.to (pe_meth ho cl me F (hr.mono hm) bi .nil L2.passL ha hst hpl htt) fun σ H Q ⟨B, w, s, q⟩ => ⟨B, w, s, fun v B1 H1 g1 s1 => ?_⟩
  obtain rfl : v = .ref t := s1
  obtain ⟨u, mr, hu⟩ := g1.w.m t _ ht
  cases mr with
  | @ins _ _ _ gs r =>
    refine ⟨t, dx, gs, rfl, hu, fsR_none r hl, B1, g1.w, s.mono g1.b, fun vs B2 H2 g2 s2 => ?_⟩
    exact ⟨B2, M2, .raw (.ref t) :: as, _, g2.w, .cons rfl (by rw [List.append_nil]; exact s2), hR, fun v B3 H3 g3 s3 => q v B3 H3 (g1.trans (g2.trans g3)) s3⟩
/-- outcomes with what is held forgotten -/
inductive Fgt (M : Mp) : Out → Out → Prop
  | rt {d : Sl} {M' : Mp} (h : ∀ a u, M a = some u → M' a = some u) : Fgt M (.rt d M') (.rt d M)
  | ex {e : Exn} {M' : Mp} (h : ∀ a u, M a = some u → M' a = some u) : Fgt M (.ex e M') (.ex e M)
theorem KO.fgt {H B H1 B1 : Hp} {D : Ends} (g : Go c M H B M1 H1 B1) (f : Fgt M o1 o) (q : KO c E D M H B o) : KO c E D M1 H1 B1 o1 := by
  cases f with
  | rt h => exact fun v B' H' g' sv => q v B' H' ((g.trans g').forget h) sv
  | @ex e M' h =>
    cases e with
    | text n => exact fun d H' B' g' hd => q d H' B' ((g.trans g').forget h) hd
    | story => exact fun H' B' g' => q H' B' ((g.trans g').forget h)
/-- x = C(a), x forgotten where the block ends -/
theorem b_make (i : Nat) {x cn : Str} {C : Addr} {D : PyData} {fs : List (Str × Sl)} {k n : Nat} {R : List Sl → Mp → Out → Prop} {p1 pos2 : Pos} (oi : Addr → Addr → Out) (F : InD X.prog X.w c X.mg X.base C k R) (hN : X.N.Nodup) (hr : Room n X.A) (hm : X.mg cn = some (.ref C)) (ha : PE X a (tD c ds M (.dat D) M))
    (hR : ∀ (M' : Mp) (t dx : Addr), M' t = some (.ins C dx []) → R [.raw (.ref t), .dat D] M' (.rt (.dat .none) (updM M' t (.ins C dx fs)))) (hrest : ∀ t dx, M t = none → M dx = none → dx ≠ t → PSs X rest (tS c E (ds.set i (.raw (.ref t))) (updM (updM M dx (.own t)) t (.ins C dx fs)) (oi t dx)))
    (hfg : ∀ t dx, M t = none → M dx = none → dx ≠ t → Fgt M (oi t dx) o) (hk : k + 1 ≤ n := by decide) (hi : X.N[i]? = some x := by rfl) (hx : Loc X.env.scope x := by first | exact Or.inl rfl | exact Or.inr rfl) (hf : X.fn x = true ∨ X.env.scope.names.lookup x = some .local := by first | exact Or.inl rfl | exact Or.inr rfl)
    (hg : Gl X cn := by rfl) (hdb : (cn == ("__debug__" : Str)) = false := by decide) (he : starEach [a] X.env = (false, eval a X.env) :: starEach [] X.env := by rfl) (hpl : (backTo pos (starEach [] X.env)).any (·.1) = false := by rfl) (hs : swapsWith (.Call (.Name cn p) [a] [] pos) (some (.Name x p1)) pos2.line X.env = pure false := by rfl) (hK : X.K = c.K := by rfl) :
    PSs X (.Assign [.Name x p1] (.Call (.Name cn p) [a] [] pos) pos2 :: rest) (tS c E ds M o) := by
  obtain ⟨f, fd, ps, F, mk, bi⟩ := F.ok
  rw [← hK] at F mk bi
  have hu : PSs X rest (fun D' σ H => ∃ t dx, (M t = none ∧ M dx = none ∧ dx ≠ t) ∧ tS c E (ds.set i (.raw (.ref t))) (updM (updM M dx (.own t)) t (.ins C dx fs)) (oi t dx) D' σ H) := ⟨fun pins s σ H D' I ⟨t, dx, h, hw⟩ => (hrest t dx h.1 h.2.1 h.2.2).run pins s σ H D' I hw⟩
  refine PSs.to (pss_cons (ps_set hN hi hx (pe_make mk F (hr.mono hk) hg hm bi .nil L2.passL (ds_cons ha ds_nil he) hdb he hpl) hs hf) hu) fun D' σ H ⟨B, w, s, q⟩ => ?_
  refine ⟨B, w, s, fun vs B1 H1 g1 s1 t dx ht hdx hne => ?_⟩
  have n1 : M t = none := g1.w.freeM ht
  have n2 : M dx = none := g1.w.freeM hdx
  have gA : Go c M H1 B1 (updM M dx (.own t)) (upd H1 dx (.own t)) B1 := Go.newM g1.w hdx .own
  have gB : Go c (updM M dx (.own t)) (upd H1 dx (.own t)) B1 (updM (updM M dx (.own t)) t (.ins C dx [])) (upd (upd H1 dx (.own t)) t (.ins C dx [])) B1 := Go.newM gA.w (by rw [upd_ne (Ne.symm hne)]; exact ht) (.ins .nil)
  have g2 := g1.trans (gA.trans gB)
  refine ⟨B1, _, [.raw (.ref t), .dat D], _, gB.w, .cons rfl (by
    cases s1 with
    | cons a1 a2 =>
      cases a2
      exact .cons a1 .nil), hR _ t dx updM_same, fun v B3 H3 g3 s3 => ?_⟩
  cases s3
  refine ⟨rfl, t, dx, ⟨n1, n2, hne⟩, ?_⟩
  rw [updM_updM] at g3
  have g4 := g2.trans g3
  exact ⟨B3, g3.w, Sls.set (d := .raw (.ref t)) (o := some (.ref t)) rfl i (s.mono g4.b), KO.fgt g4 (hfg t dx n1 n2 hne) q⟩
end
end Zd
end
/-! ## T0 -/
section
set_option Elab.async false
set_option linter.all false
set_option maxRecDepth 100000
set_option maxHeartbeats 4000000
/-! The text by places; what the top has written. -/
namespace Zd
open PySem PySem.Spec PyProof.Rows L2
def top (i : Nat) : Stmt := PySem.Challenge.pw_wrongclock_k60_whole_texts.main.body.getD i (.Pass ⟨0, 0, 0, 0⟩)
/-- a def of the top stands, bound to its name -/
def DefAt (K : PySem.W.Frag) (mg : Str → Option Value) (x qual : Str) (st : Stmt) (ps : List Str) : Prop := ∃ (f : Addr) (fd : FuncData), Fun K x qual st f fd ∧ mg x = some (.ref f) ∧ L2.Binds K fd ps []
theorem df_mk {P : Program} {w : World} {c : Cg} {mg : Str → Option Value} {base : Heap} {x : Str} {sd : Stmt} {N ps : List Str} {k n : Nat} {R : List Sl → Mp → Out → Prop} (F : DefAt c.K mg x x sd ps) (S : FnScope N ps (defScope sd)) (hl : ∀ as M o, R as M o → as.length = ps.length)
    (body : ∀ (as : List Sl) (M : Mp) (o : Out), R as M o → ∀ (f : Addr) (cdv : Value) (A : Around) (outer : List Env) (s : Shared) (H : Hp) (E : XK), Room k (A.deeper (envOfC x (defScope sd) s.heap.objs.size f cdv)) →
      ∃ o1, PSs (cxOf (L2.CX P w) P w c.K mg base N x (defScope sd) f cdv A outer s H E) (defBody sd) (tS c E (as ++ List.replicate (N.length - as.length) .no) M o1) ∧ (o1 = o ∨ ∃ ds' M', o1 = .nx ds' M' ∧ o = .rt (.dat .none) M')) :
    Df P w c mg base x (k + 1) n R := by
  obtain ⟨f, fd, F, m, b⟩ := F
  exact ⟨f, fd, ps, fn_def F S hl fun as M o hR cdv A outer s H E hr => body as M o hR f cdv A outer s H E hr, m, F.kp, b⟩
theorem blkOk_cx {CX : L2.CXT} {P : Program} {w : World} {K : PySem.W.Frag} {mg : Str → Option Value} {base : Heap} {N : List Str} {q : Str} {sc : Scope} {f : Addr} {cd : Value} {A : Around} {outer : List Env} {s : Shared} {H : Hp} {E : XK} {scope : Scope} {own : List (Str × Nat)} (h : blkC N sc scope own = true) :
    BlkOk (cxOf CX P w K mg base N q sc f cd A outer s H E).N (cxOf CX P w K mg base N q sc f cd A outer s H E).env.scope scope own := blkOk_by h
abbrev s_is_number : Stmt := top 12
abbrev s_are_settings : Stmt := top 13
abbrev s_need_almanac : Stmt := top 14
abbrev s_are_wakings : Stmt := top 15
abbrev s_are_sets : Stmt := top 16
abbrev s_is_story : Stmt := top 17
abbrev s_signed : Stmt := top 20
abbrev s_written : Stmt := top 21
abbrev s_number_of : Stmt := top 22
abbrev s_setting_of : Stmt := top 23
abbrev s_one_number : Stmt := top 24
abbrev s_two_numbers : Stmt := top 25
abbrev s_settings_of : Stmt := top 26
abbrev s_lines_of : Stmt := top 27
abbrev s_need_line : Stmt := top 28
abbrev s_read_almanac : Stmt := top 29
abbrev s_told : Stmt := top 30
abbrev s_read_story : Stmt := top 32
abbrev s_law_taken : Stmt := top 34
abbrev s_law_pick : Stmt := top 35
abbrev s_law_alike : Stmt := top 36
abbrev s_law_almanac : Stmt := top 37
abbrev s_law_story : Stmt := top 38
abbrev s_law_rows : Stmt := top 39
abbrev s_law_on : Stmt := top 40
abbrev s_law_signed : Stmt := top 41
abbrev s_law_number : Stmt := top 42
abbrev s_law_setting : Stmt := top 43
abbrev s_law_in : Stmt := top 44
abbrev s_law_two : Stmt := top 45
abbrev s_law_one : Stmt := top 46
abbrev s_law_lines : Stmt := top 47
abbrev s_law_read : Stmt := top 48
abbrev s_law_read_story : Stmt := top 49
abbrev s_law_told : Stmt := top 50
abbrev s_law_bent : Stmt := top 51
abbrev s_law : Stmt := top 52
structure Tp (K : PySem.W.Frag) (mg : Str → Option Value) : Prop where
  d_is_number : DefAt K mg "is_number" "is_number" s_is_number ["value", "low", "high"]
  d_are_settings : DefAt K mg "are_settings" "are_settings" s_are_settings ["value", "hours"]
  d_need_almanac : DefAt K mg "need_almanac" "need_almanac" s_need_almanac ["value"]
  d_are_wakings : DefAt K mg "are_wakings" "are_wakings" s_are_wakings ["almanac", "value"]
  d_are_sets : DefAt K mg "are_sets" "are_sets" s_are_sets ["almanac", "value", "end"]
  d_is_story : DefAt K mg "is_story" "is_story" s_is_story ["almanac", "value"]
  d_signed : DefAt K mg "signed" "signed" s_signed ["number"]
  d_written : DefAt K mg "written" "written" s_written ["almanac"]
  d_number_of : DefAt K mg "number_of" "number_of" s_number_of ["word"]
  d_setting_of : DefAt K mg "setting_of" "setting_of" s_setting_of ["word"]
  d_one_number : DefAt K mg "one_number" "one_number" s_one_number ["line", "word"]
  d_two_numbers : DefAt K mg "two_numbers" "two_numbers" s_two_numbers ["line", "word"]
  d_settings_of : DefAt K mg "settings_of" "settings_of" s_settings_of ["line"]
  d_lines_of : DefAt K mg "lines_of" "lines_of" s_lines_of ["text"]
  d_need_line : DefAt K mg "need_line" "need_line" s_need_line ["is_right", "line"]
  d_read_almanac : DefAt K mg "read_almanac" "read_almanac" s_read_almanac ["text"]
  d_told : DefAt K mg "told" "told" s_told ["almanac", "story"]
  d_read_story : DefAt K mg "read_story" "read_story" s_read_story ["almanac", "text"]
  d_law_taken : DefAt K mg "_law_taken" "_law_taken" s_law_taken ["_law_row", "_law_many"]
  d_law_pick : DefAt K mg "_law_pick" "_law_pick" s_law_pick ["_law_row", "_law_things"]
  d_law_alike : DefAt K mg "_law_alike" "_law_alike" s_law_alike ["_law_found", "_law_due"]
  d_law_almanac : DefAt K mg "_law_almanac" "_law_almanac" s_law_almanac ["_law_row"]
  d_law_story : DefAt K mg "_law_story" "_law_story" s_law_story ["_law_row", "_law_almanac_here", "_law_most"]
  d_law_signed : DefAt K mg "_law_signed" "_law_signed" s_law_signed ["_law_number_here"]
  d_law_number : DefAt K mg "_law_number" "_law_number" s_law_number ["_law_word"]
  d_law_setting : DefAt K mg "_law_setting" "_law_setting" s_law_setting ["_law_word"]
  d_law_in : DefAt K mg "_law_in" "_law_in" s_law_in ["_law_value", "_law_low", "_law_high"]
  d_law_two : DefAt K mg "_law_two" "_law_two" s_law_two ["_law_line", "_law_word"]
  d_law_one : DefAt K mg "_law_one" "_law_one" s_law_one ["_law_line", "_law_word"]
  d_law_lines : DefAt K mg "_law_lines" "_law_lines" s_law_lines ["_law_text"]
  d_law_read : DefAt K mg "_law_read" "_law_read" s_law_read ["_law_text"]
  d_law_read_story : DefAt K mg "_law_read_story" "_law_read_story" s_law_read_story ["_law_almanac_here", "_law_text"]
  d_law_told : DefAt K mg "_law_told" "_law_told" s_law_told ["_law_work"]
  d_law_bent : DefAt K mg "_law_bent" "_law_bent" s_law_bent ["_law_row", "_law_lines_here", "_law_more"]
  d_law : DefAt K mg "law" "law" s_law ["_law_script"]
  b_len : mg "len" = none
  b_isinstance : mg "isinstance" = none
  b_int : mg "int" = none
  b_str : mg "str" = none
  b_bool : mg "bool" = none
  b_tuple : mg "tuple" = none
  b_list : mg "list" = none
  b_abs : mg "abs" = none
  b_all : mg "all" = none
  b_zip : mg "zip" = none
  b_enumerate : mg "enumerate" = none
  b_sorted : mg "sorted" = none
  b_set : mg "set" = none
  b_range : mg "range" = none
  k_LEAST_HOURS : ∃ t, mg "LEAST_HOURS" = some (.int 2 t)
  k_MOST_HOURS : ∃ t, mg "MOST_HOURS" = some (.int 12 t)
  k_MOST_LATE : ∃ t, mg "MOST_LATE" = some (.int 24 t)
  k_MOST_SETTINGS : ∃ t, mg "MOST_SETTINGS" = some (.int 4 t)
  k_MOST_REST : ∃ t, mg "MOST_REST" = some (.int 12 t)
  k_MOST_WAKINGS : ∃ t, mg "MOST_WAKINGS" = some (.int 60 t)
  k_FIGURES : ∃ t, mg "FIGURES" = some (.str "0123456789" t)
end Zd
end
/-! ## T1 -/
section
set_option Elab.async false
set_option linter.all false
set_option maxRecDepth 100000
set_option maxHeartbeats 4000000
namespace Zd
open PySem PySem.Spec PyProof.Rows L2
def oD : Option Int → PyData
  | none => .none
  | some i => .int i
def isNum (v : Option Int) (lo hi : Int) : Bool := match v with
  | none => false
  | some i => decide (lo ≤ i) && decide (i ≤ hi)
def RIsNumber (as : List Sl) (M : Mp) (o : Out) : Prop := ∃ (v : Option Int) (lo hi : Int), as = [.dat (oD v), I lo, I hi] ∧ o = .rt (Bo (isNum v lo hi)) M
theorem sc_is_number : FnScope ["value", "low", "high"] ["value", "low", "high"] (defScope s_is_number) := ⟨rfl, rfl, rfl, by decide +kernel, rfl, by decide +kernel, by decide +kernel⟩
theorem df_is_number {P : Program} {w : World} {c : Cg} {mg : Str → Option Value} {base : Heap} (T : Tp c.K mg) : Df P w c mg base "is_number" 1 0 RIsNumber :=
  df_mk T.d_is_number sc_is_number (fun as M o ⟨_, _, _, h, _⟩ => by rw [h]; rfl) fun as M o hR f cdv A outer s H E hr => by
    obtain ⟨v, lo, hi, rfl, rfl⟩ := hR
    refine ⟨_, ?_, .inl rfl⟩
    cases v with
    | none =>
      exact b_cons (s_ret (ed_cast (d_and (k' := true) (d_blt (ds_cons (d_var 0) (ds_cons (d_ty (T := "int") T.b_int) ds_nil)) (y_isi "NoneType" false) T.b_isinstance) (fun h => by cases h)) rfl)) rfl
    | some i =>
      exact b_cons (s_ret (ed_cast (d_and (d_blt (ds_cons (d_var 0) (ds_cons (d_ty (T := "int") T.b_int) ds_nil)) (y_isi "int" true) T.b_isinstance)
        (fun _ => d_and (d_not (d_blt (ds_cons (d_var 0) (ds_cons (d_ty (T := "bool") T.b_bool) ds_nil)) (y_isi "int" false) T.b_isinstance))
        (fun _ => d_one (d_chain (d_var 1) (d_var 0) (d_var 2) x_le x_le)))) rfl)) rfl
end Zd
end
/-! ## T2 -/
section
set_option Elab.async false
set_option linter.all false
set_option maxRecDepth 100000
set_option maxHeartbeats 4000000
/-! The tests within the generator expressions. -/
namespace Zd
open PySem PySem.Spec PyProof.Rows L2
section
variable {X : Cx} {c : Cg} {pins : List (Addr × Obj)} {σ : L2.St} {H1 B1 : Hp} {M1 : Mp} {s1 : Shared} {scope : Scope} {P : Addr} {cenv : Env} {A' : Around} {E' : Value → Shared → Prop} {s₂ : Shared} {m₂ : Str → Option Value}
theorem GEl.base (g : GEl X P scope s1 cenv A' s₂) (I : Inv X pins σ H1 s1) (t : GxR.TabG H1 P) : ∀ b o, X.base.get? b = some o → s₂.heap.get? b = some o := fun b o e => by
  refine g.keep b o (fun z => ?_) (I.bk b o e)
  obtain ⟨ps, h, _⟩ := t
  rw [← z, (I.bs b o e).2] at h
  cases h
theorem keeps_trans {s s' s'' : Shared} (a : Keeps s s') (b : Keeps s' s'') : Keeps s s'' := by
  obtain ⟨h1, t1, rfl, k1⟩ := a
  obtain ⟨h2, t2, rfl, k2⟩ := b
  exact ⟨h2, t2, rfl, fun b o e => k2 b o (k1 b o e)⟩
/-- sign in FIGURES -/
theorem el_in {x y z : Str} {tz t : Tok} {ch : Nat} {p1 p2 p3 : Pos} (g : GEl X P scope s1 cenv A' s₂) (I : Inv X pins σ H1 s1) (tb : GxR.TabG H1 P) (hk : scope.kind = .function) (hn : s₂.heap.Ns cenv.locals m₂) (hm : m₂ x = some (.str ⟨#[ch]⟩ t)) (hmg : X.mg y = some (.str z tz))
    (hx : scope.names.lookup x = some .local) (hy : scope.names.lookup y = some .globalImplicit) (hd : (x == ("__debug__" : Str)) = false := by decide) (hd' : (y == ("__debug__" : Str)) = false := by decide) (hb : behindInMarks .In (.Name y p2) = false := by rfl) :
    wpAny (model X.prog X.w) A' (eval (.Compare (.Name x p1) [.In] [.Name y p2] p3) cenv) (fun v s₃ => v = .bool (decide (ch ∈ z.cps.toList)) ∧ Keeps s₂ s₃) E' s₂ := by
  refine wpAny_Compare1 ?_ hb
  refine wpAny_Name (wpAny_loadName_local (by rw [g.sc]; exact hk) (show cenv.scope.names.lookup x = some .local by rw [g.sc]; exact hx) hn hm ?_) hd
  refine Calls.Name_function_global (by rw [g.sc]; exact hk) (show cenv.scope.names.lookup y = some .globalImplicit by rw [g.sc]; exact hy) (Calls.loadGlobal_global (by rw [g.gl]; exact I.mod.glob.keeps (g.base I tb)) hmg ?_) hd'
  exact PyProof.Rows.in_str ⟨congrArg Value.bool (PySem.StrLaws.found_one z ch), GxR.keeps_refl _⟩
/-- one < other -/
theorem el_lt {x y : Str} {a b : Int} {t u : Tok} {p1 p2 p3 : Pos} (g : GEl X P scope s1 cenv A' s₂) (hk : scope.kind = .function) (hn : s₂.heap.Ns cenv.locals m₂) (hm : m₂ x = some (.int a t)) (hm' : m₂ y = some (.int b u))
    (hx : scope.names.lookup x = some .local) (hy : scope.names.lookup y = some .local) (hd : (x == ("__debug__" : Str)) = false := by decide) (hd' : (y == ("__debug__" : Str)) = false := by decide) (hb : behindInMarks .Lt (.Name y p2) = false := by rfl) :
    wpAny (model X.prog X.w) A' (eval (.Compare (.Name x p1) [.Lt] [.Name y p2] p3) cenv) (fun v s₃ => v = .bool (decide (a < b)) ∧ Keeps s₂ s₃) E' s₂ := by
  refine wpAny_Compare1 ?_ hb
  refine wpAny_Name (wpAny_loadName_local (by rw [g.sc]; exact hk) (show cenv.scope.names.lookup x = some .local by rw [g.sc]; exact hx) hn hm ?_) hd
  refine wpAny_Name (wpAny_loadName_local (by rw [g.sc]; exact hk) (show cenv.scope.names.lookup y = some .local by rw [g.sc]; exact hy) hn hm' ?_) hd'
  exact PyProof.Rows.lt_int ⟨rfl, GxR.keeps_refl _⟩
end
section
variable {P : Program} {w : World} {K : PySem.W.Frag} {mg : Str → Option Value} {base : Heap} {A : Around} {E : Value → Shared → Prop} {s : Shared}
/-- is_number(n, a, b), n an int, from any state behind the top -/
theorem num_call {n a b : Int} {t u v : Tok} {f : Addr} {fd : FuncData} (F : Fun K "is_number" "is_number" s_is_number f fd) (bi : L2.Binds K fd ["value", "low", "high"] []) (T : Tp K mg) (md : Mod K mg base) (bk : ∀ b o, base.get? b = some o → s.heap.get? b = some o) (hdp : A.depth < recursionLimit) :
    wpAny (model P w) A (call (.ref f) [.int n t, .int a u, .int b v]) (fun y s3 => y = .bool (isNum (some n) a b) ∧ Keeps s s3) E s := by
  have kin : K.In s.heap := md.kin.keeps bk
  obtain ⟨⟨oc, od, kV, doc, pm, an, cdv, ct, osl, rfl, lk, hcd⟩, kp⟩ := F
  refine wpAny_call ?_
  refine Att.call_fn kin (md.nolimit.keeps bk) lk hcd hdp (bi s [.int n t, .int a u, .int b v] kin rfl) rfl (fun s₁ x => ?_) rfl rfl rfl
  have keep := x.toInCall.keep
  obtain ⟨h1, tk1, e1⟩ := x.toInCall.same
  subst e1
  have ns := x.toInCall.ns
  have bk1 : ∀ b o, base.get? b = some o → h1.get? b = some o := fun b o e => keep b o (bk b o e)
  have gl : h1.Ns mainGlobals mg := md.glob.keeps bk1
  obtain ⟨mb, hmb, hb2⟩ := md.blt
  have bl : h1.Ns builtinsNs mb := hmb.keeps bk1
  have kin1 : K.In h1 := md.kin.keeps bk1
  have isi : ∀ (N : String) (k : Bool) (tk : Nat) (p1 p2 p3 pos : Pos) (x : Str) (Q : Value → Shared → Prop) (E : Value → Shared → Prop) (A : Around), bootBuiltins x = some (.type N) → mg x = none → kitB "int" N = some k → (x ≠ ("__name__" : Str)) → (x == ("__debug__" : Str)) = false →
      (envOfC "is_number" (defScope s_is_number) s.heap.objs.size f cdv).kindOf x = some .globalImplicit → (starEach [.Name x p2] (envOfC "is_number" (defScope s_is_number) s.heap.objs.size f cdv) = (false, eval (.Name x p2) (envOfC "is_number" (defScope s_is_number) s.heap.objs.size f cdv)) :: starEach [] (envOfC "is_number" (defScope s_is_number) s.heap.objs.size f cdv)) →
      (∀ tk', Q (.bool k) { s with heap := h1, toks := tk' }) → wpAny (model P w) A (eval (.Call (.Name "isinstance" p1) [.Name "value" p3, .Name x p2] [] pos) (envOfC "is_number" (defScope s_is_number) s.heap.objs.size f cdv)) Q E { s with heap := h1, toks := tk } := by
    intro N k tk p1 p2 p3 pos x Q E A hb hm hkit hn hd hk hst hQ
    refine wpAny_Call_Name_kw (Calls.Name_function_global rfl rfl (Calls.loadGlobal_builtin gl T.b_isinstance bl ((hb2 "isinstance" (by decide)).trans (by decide +kernel : bootBuiltins "isinstance" = some (.builtin "isinstance"))) ?_))
    refine PyProof.Rows.callWith_builtin1 ?_ (by rfl) (by rfl)
    refine Calls.spliced_cons (wpAny_Name (wpAny_loadName_local rfl rfl ns (v := .int n t) rfl ?_))
    rw [hst]
    refine Calls.spliced_cons (Calls.Name_function_global rfl hk (Calls.loadGlobal_builtin gl hm bl ((hb2 x hn).trans hb) ?_) hd)
    refine Calls.spliced_nil ?_
    exact PySem.W.kia_one PySem.W.kitx_int kin1 True.intro (kit_ty hkit) (fun z => nomatch z) fun tk' => hQ tk'
  refine wpAny_execs_cons (wpAny_Return_some (BoolOp_and (isi "int" true _ _ _ _ _ "int" _ _ _ (by decide +kernel) T.b_int (by decide +kernel) (by decide) (by decide) rfl rfl fun tk2 => wpAny_truthy_bool ?_)))
  refine ite_tt (BoolOp_and (UnaryOp_ (isi "bool" false _ _ _ _ _ "bool" _ _ _ (by decide +kernel) T.b_bool (by decide +kernel) (by decide) (by decide) rfl rfl fun tk3 => not_of (wpAny_truthy_bool (wpAny_truthy_bool ?_)))))
  refine ite_tt (BoolOp_one (Compare_chain (wpAny_Name (wpAny_loadName_local rfl rfl ns (v := .int a u) rfl ?_))))
  refine chain_link (wpAny_Name (wpAny_loadName_local rfl rfl ns (v := .int n t) rfl (PyProof.Rows.le_int (wpAny_truthy_bool ?_))))
  have kp : ∀ tk, Keeps s { s with heap := h1, toks := tk } := fun tk => ⟨h1, tk, rfl, keep⟩
  cases hq : decide (a ≤ n) with
  | false => exact ite_ff ⟨by show Value.bool false = .bool (decide (a ≤ n) && decide (n ≤ b)); rw [hq]; rfl, kp _⟩
  | true =>
    refine ite_tt (chain_last (wpAny_Name (wpAny_loadName_local rfl rfl ns (v := .int b v) rfl (PyProof.Rows.le_int ⟨?_, kp _⟩))))
    show Value.bool _ = .bool (decide (a ≤ n) && decide (n ≤ b))
    rw [hq]
    rfl
end
section
variable {X : Cx} {c : Cg} {pins : List (Addr × Obj)} {σ : L2.St} {H1 B1 : Hp} {M1 : Mp} {s1 : Shared} {scope : Scope} {P : Addr} {cenv : Env} {A' : Around} {E' : Value → Shared → Prop} {s₂ : Shared} {m₂ : Str → Option Value}
/-- is_number(setting, 1 - hours, hours - 1) and setting != 0 -/
theorem el_num {n h : Int} {t : Tok} {i k : Nat} {ds : List Sl} {f : Addr} {fd : FuncData} {p0 p1 p2 p3 p4 p5 p6 p7 p8 p9 p10 p11 p12 : Pos} {j1 j2 j3 : Nat} (F : Fun X.K "is_number" "is_number" s_is_number f fd) (bi : L2.Binds X.K fd ["value", "low", "high"] []) (T : Tp X.K X.mg) (hmf : X.mg "is_number" = some (.ref f)) (g : GEl X P scope s1 cenv A' s₂) (I : Inv X pins σ H1 s1) (tb : GxR.TabG H1 P) (hr : Room (k + 2) X.A) (sl : Sls B1 ds σ)
    (hk : scope.kind = .function) (hn : s₂.heap.Ns cenv.locals m₂) (hm : m₂ "setting" = some (.int n t)) (hx : scope.names.lookup ("setting" : Str) = some .local) (hy : scope.names.lookup ("hours" : Str) = some .free) (hyc : X.env.scope.names.lookup ("hours" : Str) = some .cell) (hf : scope.names.lookup ("is_number" : Str) = some .globalImplicit)
    (hmem : (("hours" : Str), NameKind.free) ∈ scope.names) (hfree : ∀ y ∈ scope.names, y.2 = .free → ∃ c, X.env.cells.lookup y.1 = some c) (hi : X.N[i]? = some "hours") (hd : ds[i]? = some (.dat (.int h))) :
    wpAny (model X.prog X.w) A' (eval (.BoolOp .And [.Call (.Name "is_number" p1) [.Name "setting" p2, .BinOp (.Constant (.int 1) j1 p3) .Sub (.Name "hours" p4) p5, .BinOp (.Name "hours" p6) .Sub (.Constant (.int 1) j2 p7) p8] [] p9, .Compare (.Name "setting" p10) [.NotEq] [.Constant (.int 0) j3 p11] p12] p0) cenv) (fun v s₃ => v = .bool (isNum (some n) (1 - h) (h - 1) && n != 0) ∧ Keeps s₂ s₃) E' s₂ := by
  have hcs : cenv.scope.kind = .function := by rw [g.sc]; exact hk
  have bk2 := g.base I tb
  obtain ⟨v, ev, sv⟩ := sl.get hd (by intro z; cases z)
  cases sv
  obtain ⟨m, hns, hloc⟩ := I.loc
  obtain ⟨u, ru, lk⟩ := hloc i _ _ hi ev (.inr (.inl hyc))
  obtain ⟨th, rfl⟩ := _root_.id ru
  have cc : ∃ cc, X.env.cells.lookup ("hours" : Str) = some cc ∧ s1.heap.IsCell cc (some (.int h th)) := by
    rcases lk with ⟨z, _⟩ | ⟨_, q⟩
    · have z' : X.env.scope.names.lookup ("hours" : Str) = some .local := z
      rw [hyc] at z'
      cases z'
    · exact q
  obtain ⟨cc, hcc, hcell⟩ := cc
  have ce2 : cenv.cells.lookup ("hours" : Str) = some cc := by
    rw [g.ce]
    exact NdefX.clo_has hfree hmem hcc
  have cell2 : s₂.heap.IsCell cc (some (.int h th)) := by
    obtain ⟨o, ho, hdt⟩ := hcell
    refine ⟨o, g.keep cc o (fun z => ?_) ho, hdt⟩
    obtain ⟨ps, hp, _⟩ := tb
    rw [← z, I.freeC _ _ hcc] at hp
    cases hp
  have ldh : ∀ (tk : Nat) (p : Pos) (Q : Value → Shared → Prop), Q (.int h th) { s₂ with toks := tk } → wpAny (model X.prog X.w) A' (eval (.Name "hours" p) cenv) Q E' { s₂ with toks := tk } := fun tk p Q q =>
    wpAny_Name (wpAny_loadName_free hcs (show cenv.scope.names.lookup ("hours" : Str) = some .free by rw [g.sc]; exact hy) ce2 cell2 q)
  have lds : ∀ (s3 : Shared) (p : Pos) (Q : Value → Shared → Prop), s3.heap.Ns cenv.locals m₂ → Q (.int n t) s3 → wpAny (model X.prog X.w) A' (eval (.Name "setting" p) cenv) Q E' s3 := fun s3 p Q hn3 q =>
    wpAny_Name (wpAny_loadName_local hcs (show cenv.scope.names.lookup ("setting" : Str) = some .local by rw [g.sc]; exact hx) hn3 hm q)
  refine BoolOp_and ?_
  refine wpAny_Call_Name_kw (Calls.Name_function_global hcs (show cenv.scope.names.lookup ("is_number" : Str) = some .globalImplicit by rw [g.sc]; exact hf) (Calls.loadGlobal_global (by rw [g.gl]; exact I.mod.glob.keeps bk2) hmf ?_))
  refine PySem.W.callWith_K (h₀ := X.base) I.ok.mod.kin F.kp ?_ rfl rfl
  refine Calls.spliced_cons (lds s₂ _ _ hn ?_)
  refine Calls.spliced_cons (wpAny_BinOp (wpAny_Constant_int (ldh _ _ _ (PySem.P.sub_int ?_))))
  refine Calls.spliced_cons (wpAny_BinOp (ldh _ _ _ (wpAny_Constant_int (PySem.P.sub_int ?_))))
  refine Calls.spliced_nil ?_
  refine ⟨(I.ok.mod.kin.keeps bk2), wpAny_mono (num_call F bi T I.ok.mod bk2 (by have := hr.dp; have := g.dp; show A'.depth < _; omega)) (fun y s3 r => ?_) fun _ _ e => e⟩
  obtain ⟨rfl, kp⟩ := r
  have kp2 : Keeps s₂ s3 := by
    obtain ⟨h', tk, e, k⟩ := kp
    exact ⟨h', tk, e, k⟩
  refine wpAny_truthy_bool ?_
  cases hq : isNum (some n) (1 - h) (h - 1) with
  | false => exact ite_ff ⟨rfl, kp2⟩
  | true =>
    refine ite_tt (BoolOp_one (wpAny_Compare1 ?_ rfl))
    obtain ⟨h', tk, e, k⟩ := kp2
    subst e
    exact lds _ _ _ (hn.keeps k) (wpAny_Constant_int (PySem.P.ne_int ⟨rfl, h', _, rfl, k⟩))
end
end Zd
end
/-! ## P0 -/
section
set_option Elab.async false
set_option linter.all false
set_option maxRecDepth 100000
set_option maxHeartbeats 4000000
/-! Plain laws: numbers of words. -/
namespace Zd
open PySem PySem.Spec PyProof.Rows L2

def isFig (ch : Nat) : Bool := decide (ch ∈ ("0123456789" : Str).cps.toList)
theorem isFig_iff {ch : Nat} : isFig ch = true ↔ 48 ≤ ch ∧ ch ≤ 57 := by
  unfold isFig
  rw [decide_eq_true_iff, show ("0123456789" : Str).cps.toList = [48, 49, 50, 51, 52, 53, 54, 55, 56, 57] by decide +kernel]
  simp only [List.mem_cons, List.not_mem_nil, or_false]
  omega
def digs (w : Str) : Bool := w.cps.toList.all isFig
theorem digs_all {w : Str} (h : digs w = true) : NumText.AllDigits w.cps.toList := fun ch hc => isFig_iff.mp (List.all_eq_true.mp h ch hc)
/-- the number of a word -/
def numOf (w : Str) : Option Int := if (decide (1 ≤ w.length) && decide (w.length ≤ 4) && digs w && !(decide (1 < w.length) && w.cps.toList.head? == some 48)) = true then some ((NumText.digitsVal w.cps.toList : Nat) : Int) else none
theorem dval_snoc (l : List Nat) (ch : Nat) : NumText.digitsVal (l ++ [ch]) = NumText.digitsVal l * 10 + (ch - 48) := by
  unfold NumText.digitsVal
  rw [List.foldl_append]
  rfl
theorem dval_pos {l : List Nat} (h : NumText.AllDigits l) (hh : l.head? ≠ some 48) (hn : l ≠ []) : 1 ≤ NumText.digitsVal l := by
  have key : ∀ (n : Nat) (l : List Nat), l.length = n → NumText.AllDigits l → l.head? ≠ some 48 → l ≠ [] → 1 ≤ NumText.digitsVal l := by
    intro n
    induction n with
    | zero => intro l e _ _ hn; exact absurd (List.eq_nil_of_length_eq_zero e) hn
    | succ n ih =>
      intro l e h hh hn
      obtain ⟨r, ch, rfl⟩ : ∃ r ch, l = r ++ [ch] := ⟨l.dropLast, l.getLast hn, (List.dropLast_concat_getLast hn).symm⟩
      rw [dval_snoc]
      by_cases hr : r = []
      · subst hr
        have := h ch (by simp)
        have : ch ≠ 48 := fun z => hh (by rw [z]; rfl)
        omega
      · have : 1 ≤ NumText.digitsVal r := ih r (by simpa using e) (fun d hd => h d (by simp [hd])) (fun z => hh (by rw [List.head?_append, z]; rfl)) hr
        omega
  exact key _ l rfl h hh hn
theorem numL_dval {l : List Nat} (h : NumText.AllDigits l) (hh : l.length = 1 ∨ l.head? ≠ some 48) (hn : l ≠ []) : TL.numL (NumText.digitsVal l) = l := by
  have key : ∀ (n : Nat) (l : List Nat), l.length = n → NumText.AllDigits l → (l.length = 1 ∨ l.head? ≠ some 48) → l ≠ [] → TL.numL (NumText.digitsVal l) = l := by
    intro n
    induction n with
    | zero => intro l e _ _ hn; exact absurd (List.eq_nil_of_length_eq_zero e) hn
    | succ n ih =>
      intro l e h hh hn
      obtain ⟨r, ch, rfl⟩ : ∃ r ch, l = r ++ [ch] := ⟨l.dropLast, l.getLast hn, (List.dropLast_concat_getLast hn).symm⟩
      have hc := h ch (by simp)
      rw [dval_snoc]
      by_cases hr : r = []
      · subst hr
        show TL.numL (0 * 10 + (ch - 48)) = [ch]
        rw [TL.numL_lt (by omega)]
        congr 1
        omega
      · have hh' : r.head? ≠ some 48 := by
          rcases hh with z | z
          · rw [List.length_append] at z
            exact absurd (List.eq_nil_of_length_eq_zero (by simpa using z)) hr
          · intro q
            exact z (by rw [List.head?_append, q]; rfl)
        have hd : NumText.AllDigits r := fun d hd => h d (by simp [hd])
        have p := dval_pos hd hh' hr
        rw [TL.numL_step (by omega), show (NumText.digitsVal r * 10 + (ch - 48)) / 10 = NumText.digitsVal r by omega, show 48 + (NumText.digitsVal r * 10 + (ch - 48)) % 10 = ch by omega, ih r (by simpa using e) hd (.inr hh') hr]
  exact key _ l rfl h hh hn
theorem dval_lt : ∀ (l : List Nat), NumText.AllDigits l → NumText.digitsVal l < 10 ^ l.length := by
  have key : ∀ (n : Nat) (l : List Nat), l.length = n → NumText.AllDigits l → NumText.digitsVal l < 10 ^ l.length := by
    intro n
    induction n with
    | zero =>
      intro l e _
      rw [List.eq_nil_of_length_eq_zero e]
      decide
    | succ n ih =>
      intro l e h
      have hn : l ≠ [] := fun z => by rw [z] at e; cases e
      obtain ⟨r, ch, rfl⟩ : ∃ r ch, l = r ++ [ch] := ⟨l.dropLast, l.getLast hn, (List.dropLast_concat_getLast hn).symm⟩
      have hc := h ch (by simp)
      have := ih r (by simpa using e) fun d hd => h d (by simp [hd])
      rw [dval_snoc, List.length_append, List.length_singleton, Nat.pow_succ]
      omega
  exact fun l => key _ l rfl
theorem intText_dval {w : Str} (h1 : 1 ≤ w.length) (h4 : w.length ≤ 4) (hd : digs w = true) : PySem.intText? w = some ((NumText.digitsVal w.cps.toList : Nat) : Int) :=
  PySem.intText_digits (digs_all hd) (fun z => by have := TL.len_tl w; rw [show TL.tl w = [] from z] at this; simp at this; omega) (by omega)
theorem dval_small {w : Str} (h4 : w.length ≤ 4) (hd : digs w = true) : NumText.digitsVal w.cps.toList < 10000 := by
  have := dval_lt _ (digs_all hd)
  have e : w.cps.toList.length = w.length := (TL.len_tl w).symm
  rw [e] at this
  exact Nat.lt_of_lt_of_le this (Nat.pow_le_pow_right (by decide) h4)
/-- str(int(word)) == word -/
theorem back_dval {w : Str} (h1 : 1 ≤ w.length) (h4 : w.length ≤ 4) (hd : digs w = true) : decide (Str.ofString (toString ((NumText.digitsVal w.cps.toList : Nat) : Int)) = w) = !(decide (1 < w.length) && w.cps.toList.head? == some 48) := by
  have el : w.cps.toList.length = w.length := (TL.len_tl w).symm
  have ne : w.cps.toList ≠ [] := fun z => by rw [z] at el; simp at el; omega
  have ad := digs_all hd
  have iff : Str.ofString (toString ((NumText.digitsVal w.cps.toList : Nat) : Int)) = w ↔ TL.numL (NumText.digitsVal w.cps.toList) = w.cps.toList := by
    rw [← TL.tl_num]
    exact ⟨fun h => by rw [h], fun h => TL.ext_tl h⟩
  by_cases c : 1 < w.length ∧ w.cps.toList.head? = some 48
  · have r : (!(decide (1 < w.length) && w.cps.toList.head? == some 48)) = false := by simp [c.1, c.2]
    rw [r]
    refine decide_eq_false fun z => ?_
    have z := iff.mp z
    obtain ⟨r0, er⟩ : ∃ r0, w.cps.toList = 48 :: r0 := by
      cases q : w.cps.toList with
      | nil => exact absurd q ne
      | cons a b =>
        have := c.2
        rw [q] at this
        cases this
        exact ⟨b, rfl⟩
    rw [er] at z el ad
    have hv : NumText.digitsVal (48 :: r0) = NumText.digitsVal r0 := rfl
    have lt := dval_lt r0 ad.tail
    have rl : 0 < r0.length := by simp at el; omega
    have len := TL.numL_len rl lt
    rw [hv] at z
    rw [z] at len
    simp at len
    omega
  · have r : (!(decide (1 < w.length) && w.cps.toList.head? == some 48)) = true := by
      cases h5 : decide (1 < w.length) with
      | false => rfl
      | true =>
        have := of_decide_eq_true h5
        have q : w.cps.toList.head? ≠ some 48 := fun z => c ⟨this, z⟩
        simp [q]
    rw [r]
    refine decide_eq_true (iff.mpr (numL_dval ad ?_ ne))
    by_cases h5 : 1 < w.length
    · exact .inr fun z => c ⟨h5, z⟩
    · exact .inl (by omega)
end Zd
end
/-! ## T3 -/
section
set_option Elab.async false
set_option linter.all false
set_option maxRecDepth 100000
set_option maxHeartbeats 4000000
/-! number_of, are_settings. -/
namespace Zd
open PySem PySem.Spec PyProof.Rows L2
/-- a def whose code object is told -/
structure FunC (K : PySem.W.Frag) (x qual : Str) (st : Stmt) (f : Addr) (fd : FuncData) (cc : Addr) : Prop where
  ex : ∃ (oc : Value) (od : Option Addr) (kV doc pm : Value) (an : Option Addr) (ct : Value) (osl : Array (Option Value)),
    fd = PySem.W.fnOf x qual (defArgs st) (defBody st) (defScope st) .none kV doc pm an (.ref cc) ct ∧ K.lookup f = some ⟨oc, od, .func fd, osl⟩ ∧ PySem.W.codeIn K (.ref cc) qual = true
  kp : PySem.W.keepIn K (.ref f) = true
def DefAtC (K : PySem.W.Frag) (mg : Str → Option Value) (x qual : Str) (st : Stmt) (ps : List Str) (cc : Addr) : Prop := ∃ (f : Addr) (fd : FuncData), FunC K x qual st f fd cc ∧ mg x = some (.ref f) ∧ L2.Binds K fd ps []
def tlm (i : Nat) : Stmt := match top 31 with
  | .ClassDef _ _ _ b _ _ _ _ _ _ _ => b.getD i (.Pass ⟨0, 0, 0, 0⟩)
  | _ => .Pass ⟨0, 0, 0, 0⟩
abbrev s_T_init : Stmt := tlm 0
abbrev s_T_read : Stmt := tlm 1
abbrev s_T_woken : Stmt := tlm 2
abbrev s_T_set_by : Stmt := tlm 3
/-- the class Teller -/
structure TlX (K : PySem.W.Frag) (mg : Str → Option Value) (C : Addr) : Prop where
  g : mg "Teller" = some (.ref C)
  cl : Cls K C
  i : InAt K C "Teller.__init__" s_T_init ["self", "almanac"]
  r : MeAt K C "read" "Teller.read" s_T_read ["self", "line"]
  w : MeAt K C "woken" "Teller.woken" s_T_woken ["self", "hour"]
  s : MeAt K C "set_by" "Teller.set_by" s_T_set_by ["self", "hour", "setting"]
  a1 : NoAttr K C "almanac"
  a2 : NoAttr K C "wakings"
  a3 : NoAttr K C "sets"
structure Tq (c : Cg) (mg : Str → Option Value) (base : Heap) : Prop extends Tp c.K mg where
  n_of : ∃ cc, DefAtC c.K mg "number_of" "number_of" s_number_of ["word"] cc ∧ GxR.TabB base mg cc c.PN
  a_of : ∃ cc, DefAtC c.K mg "are_settings" "are_settings" s_are_settings ["value", "hours"] cc ∧ GxR.TabB base mg cc c.PA
  xT : ∃ fI, PySem.BtX.BtTxt c.K mg c.CT fI
  xS : StX c.K mg c.CS
  tl : ∃ C, TlX c.K mg C
  l_of : ∃ cc, DefAtC c.K mg "law" "law" s_law ["_law_script"] cc ∧ GxR.TabB base mg cc c.PL
theorem df_mkC {P : Program} {w : World} {c : Cg} {mg : Str → Option Value} {base : Heap} {x : Str} {sd : Stmt} {N ps : List Str} {k n : Nat} {cc : Addr} {R : List Sl → Mp → Out → Prop} (F : DefAtC c.K mg x x sd ps cc) (S : FnScope N ps (defScope sd)) (hl : ∀ as M o, R as M o → as.length = ps.length)
    (body : ∀ (as : List Sl) (M : Mp) (o : Out), R as M o → ∀ (f : Addr) (A : Around) (outer : List Env) (s : Shared) (H : Hp) (E : XK), Room k (A.deeper (envOfC x (defScope sd) s.heap.objs.size f (.ref cc))) →
      ∃ o1, PSs (cxOf (L2.CX P w) P w c.K mg base N x (defScope sd) f (.ref cc) A outer s H E) (defBody sd) (tS c E (as ++ List.replicate (N.length - as.length) .no) M o1) ∧ (o1 = o ∨ ∃ ds' M', o1 = .nx ds' M' ∧ o = .rt (.dat .none) M')) :
    Df P w c mg base x (k + 1) n R := by
  obtain ⟨f, fd, ⟨⟨oc, od, kV, doc, pm, an, ct, osl, rfl, lk, hcd⟩, kp⟩, m, b⟩ := F
  refine ⟨f, _, ps, fn_of lk hcd S (fun vs H Q E h => ?_) fun A outer s H vs Q E hr h => ?_, m, kp, b⟩
  · obtain ⟨B, M, as, o, _, sv, hR, _⟩ := h
    rw [← sv.len, hl as M o hR]
  · obtain ⟨B, M, as, o, w, sv, hR, ko⟩ := h
    obtain ⟨o1, hb, ho⟩ := body as M o hR f A outer s H E hr
    refine ⟨_, hb, B, w, ?_, ?_⟩
    · have st := Sls.start (N.length - as.length) sv
      have e : L2.start N vs = vs.map some ++ List.replicate (N.length - as.length) none := by unfold L2.start; rw [← sv.len]
      rw [e]
      exact st
    · rcases ho with e | ⟨ds', M', e1, e2⟩
      · subst e
        cases o1 with
        | nx ds' M' => exact fun σ' B' H' g s => (ko σ' B' H' g s).elim
        | rt d M' => exact ko
        | ex e M' => cases e <;> exact ko
      · subst e1 e2
        exact fun σ' B' H' g s => ko .non B' H' g .non
def gscB (sc scope : Scope) : Bool := scope.kind == .function && !scope.isCoroutine && scope.names.all (fun y => y.2 != .cell && (y.2 != .free || sc.names.lookup y.1 == some .cell)) && scope.names.lookup (".0" : Str) == some NameKind.local
theorem gsc_by {scope : Scope} {q : Str} {sc : Scope} {L f : Addr} {cd : Value} (h : gscB sc scope = true) : GSc (envOfC q sc L f cd) scope := by
  unfold gscB at h
  simp only [Bool.and_eq_true, List.all_eq_true] at h
  obtain ⟨⟨⟨h1, h2⟩, h3⟩, h4⟩ := h
  refine ⟨eq_of_beq h1, by simpa using h2, fun y hy => by simpa using (h3 y hy).1, eq_of_beq h4, fun y hy e => ?_⟩
  have z := (h3 y hy).2
  rw [e] at z
  have z2 : sc.names.lookup y.1 = some NameKind.cell := by
    have : (false || (sc.names.lookup y.1 == some NameKind.cell)) = true := z
    simpa using this
  have := PySem.W.cellsFrom_some sc.names (L + 1) [] (x := y.1) (.inl z2)
  cases q2 : (cellsFrom (L + 1) sc.names []).lookup y.1 with
  | none => rw [q2] at this; cases this
  | some c => exact ⟨c, q2⟩
theorem lg_small {n : Nat} (h : n < 10 ^ 30) : n.log2 < 1920 := by
  by_cases z : n = 0
  · rw [z]
    decide
  · rw [Nat.log2_lt z]
    exact Nat.lt_of_lt_of_le h (by decide +kernel)
def RNumberOf (as : List Sl) (M : Mp) (o : Out) : Prop := ∃ z : Str, z.length ≤ 100000 ∧ as = [S z] ∧ o = .rt (.dat (oD (numOf z))) M
theorem sc_number_of : FnScope ["word"] ["word"] (defScope s_number_of) := ⟨rfl, rfl, rfl, by decide +kernel, rfl, by decide +kernel, by decide +kernel⟩
theorem numOf_bad {z : Str} (h : (!(decide ((1 : Int) ≤ ((lenD (.str z) : Nat) : Int)) && decide (((lenD (.str z) : Nat) : Int) ≤ 4)) || !z.cps.toList.all (fun ch => decide (ch ∈ ("0123456789" : Str).cps.toList))) = true) : numOf z = none := by
  unfold numOf
  refine if_neg fun q => ?_
  rw [Bool.and_eq_true, Bool.and_eq_true, Bool.and_eq_true] at q
  obtain ⟨⟨⟨q1, q2⟩, q3⟩, _⟩ := q
  rw [show z.cps.toList.all (fun ch => decide (ch ∈ ("0123456789" : Str).cps.toList)) = true from q3] at h
  have := of_decide_eq_true q1
  have := of_decide_eq_true q2
  rw [decide_eq_true (show (1 : Int) ≤ ((lenD (.str z) : Nat) : Int) by show (1 : Int) ≤ ((z.length : Nat) : Int); omega), decide_eq_true (show ((lenD (.str z) : Nat) : Int) ≤ 4 by show ((z.length : Nat) : Int) ≤ 4; omega)] at h
  cases h
theorem numOf_good {z : Str} (h : (!(decide ((1 : Int) ≤ ((lenD (.str z) : Nat) : Int)) && decide (((lenD (.str z) : Nat) : Int) ≤ 4)) || !z.cps.toList.all (fun ch => decide (ch ∈ ("0123456789" : Str).cps.toList))) = false) : 1 ≤ z.length ∧ z.length ≤ 4 ∧ digs z = true := by
  rw [Bool.or_eq_false_iff, Bool.not_eq_false', Bool.not_eq_false', Bool.and_eq_true, decide_eq_true_iff, decide_eq_true_iff] at h
  obtain ⟨⟨a1, a2⟩, b⟩ := h
  have a1 : (1 : Int) ≤ ((z.length : Nat) : Int) := a1
  have a2 : ((z.length : Nat) : Int) ≤ 4 := a2
  exact ⟨by omega, by omega, b⟩
theorem df_number_of {P : Program} {w : World} {c : Cg} {mg : Str → Option Value} {base : Heap} (T : Tq c mg base) : Df P w c mg base "number_of" 1 0 RNumberOf := by
  obtain ⟨cc, D, TB⟩ := T.n_of
  refine df_mkC D sc_number_of (fun as M o ⟨_, _, h, _⟩ => by rw [h]; rfl) fun as M o hR f A outer s H E hr => ?_
  obtain ⟨z, hz, rfl, rfl⟩ := hR
  refine ⟨_, ?_, .inl rfl⟩
  refine b_guard (t_w (w_or (t_not (t_chain d_int (d_blt (ds_cons (d_var 0) ds_nil) (y_len (D := .str z) hz) T.b_len) d_int x_le x_le)) (fun h => w_or1 (t_not (t_val (d_allS hr rfl T.b_all TB (.inl rfl) rfl (gsc_by (by decide +kernel)) (d_var 0)
    (fun pins σ H1 B1 s1 I w sl cenv A' E' ch t s₂ m₂ g hn hm => el_in g I (w.t.at (.inl rfl)) rfl hn hm T.k_FIGURES.choose_spec rfl rfl))))))) (fun k => ?_) (fun _ _ _ => nofun) (fun k => ?_)
  · exact b_cast (b_cons (s_ret d_non) rfl) (by rw [numOf_bad k]; rfl)
  · obtain ⟨h1, h4, hd⟩ := numOf_good k
    have it := intText_dval h1 h4 hd
    have sm := dval_small h4 hd
    have bk := back_dval h1 h4 hd
    have lg : (((NumText.digitsVal z.cps.toList : Nat) : Int)).natAbs.log2 < 1920 := lg_small (by rw [Int.natAbs_natCast]; omega)
    have e : oD (numOf z) = if decide (Str.ofString (toString ((NumText.digitsVal z.cps.toList : Nat) : Int)) = z) = true then .int ((NumText.digitsVal z.cps.toList : Nat) : Int) else .none := by
      rw [bk]
      unfold numOf
      rw [decide_eq_true h1, decide_eq_true h4, hd]
      cases (!(decide (1 < z.length) && z.cps.toList.head? == some 48)) <;> rfl
    rw [e]
    refine b_cons (s_ret (d_if (t_cmp (d_typ (ds_cons (d_typ (ds_cons (d_var 0) ds_nil) (y_intS it (by omega)) T.b_int) ds_nil) (y_str lg) T.b_str) (d_var 0) x_eqS) (fun h => ed_cast (d_typ (ds_cons (d_var 0) ds_nil) (y_intS it (by omega)) T.b_int) (by rw [if_pos h])) (fun h => ed_cast d_non (by rw [if_neg (by rw [h]; exact Bool.false_ne_true)])))) rfl
end Zd
end
/-! ## T4 -/
section
set_option Elab.async false
set_option linter.all false
set_option maxRecDepth 100000
set_option maxHeartbeats 4000000
/-! Slices, items, -1; are_settings. -/
namespace Zd
open PySem PySem.Spec PyProof.Rows L2
section
variable {X : Cx} {c : Cg} {ds : List Sl} {M M1 M2 : Mp} {a : Expr} {pos : Pos}
theorem d_neg {i : Int} (h : PE X a (tD c ds M (I i) M1)) : PE X (.UnaryOp .USub a pos) (tD c ds M (I (-i)) M1) :=
  PE.to (pe_un un_neg h) fun σ H Q ⟨B, w, s, q⟩ => ⟨B, w, s, fun v B' H' g sv => by
    cases sv
    exact ⟨i, rfl, q _ B' H' g (.int _)⟩⟩
end
theorem sIx_neg1 (n d : Nat) : HT.sIx n d (some (-1)) = n - 1 := by
  show (if (-1 : Int) < 0 then ((-1 : Int) + (n : Int)).toNat else min (-1 : Int).toNat n) = n - 1
  rw [if_pos (by decide)]
  omega
theorem cut_from {α : Type} (xs : List α) (n : Nat) : (xs.drop (HT.sIx xs.length 0 (some (n : Int)))).take (HT.sIx xs.length xs.length none - HT.sIx xs.length 0 (some (n : Int))) = xs.drop n := by
  rw [HT.sIx_nat, HT.sIx_none]
  rcases Nat.le_total n xs.length with h | h
  · rw [Nat.min_eq_left h, List.take_of_length_le (by rw [List.length_drop]; omega)]
  · rw [Nat.min_eq_right h, Nat.sub_self, List.take_zero, List.drop_of_length_le h]
theorem cut_to {α : Type} (xs : List α) (n : Nat) : (xs.drop (HT.sIx xs.length 0 none)).take (HT.sIx xs.length xs.length (some (n : Int)) - HT.sIx xs.length 0 none) = xs.take n := by
  rw [HT.sIx_nat, HT.sIx_none, List.drop_zero, Nat.sub_zero]
  rcases Nat.le_total n xs.length with h | h
  · rw [Nat.min_eq_left h]
  · rw [Nat.min_eq_right h, List.take_of_length_le (Nat.le_refl _), List.take_of_length_le h]
theorem cut_neg {α : Type} (xs : List α) : (xs.drop (HT.sIx xs.length 0 none)).take (HT.sIx xs.length xs.length (some (-1)) - HT.sIx xs.length 0 none) = xs.dropLast := by
  rw [sIx_neg1, HT.sIx_none, List.drop_zero, Nat.sub_zero, List.dropLast_eq_take]
theorem cutD_from (xs : List PyData) (n : Nat) : cutD xs (some (n : Int)) none = xs.drop n := cut_from xs n
theorem cutD_1 (xs : List PyData) : cutD xs (some 1) none = xs.drop 1 := cut_from xs 1
theorem cutD_to (xs : List PyData) (n : Nat) : cutD xs none (some (n : Int)) = xs.take n := cut_to xs n
theorem cutD_neg (xs : List PyData) : cutD xs none (some (-1)) = xs.dropLast := cut_neg xs
theorem tl_len (z : Str) : z.cps.toList.length = z.length := (TL.len_tl z).symm
theorem cutS_from (z : Str) (n : Nat) : (cutS z (some (n : Int)) none).cps.toList = z.cps.toList.drop n := by
  unfold cutS
  rw [← tl_len]
  exact cut_from z.cps.toList n
theorem cutS_to (z : Str) (n : Nat) : (cutS z none (some (n : Int))).cps.toList = z.cps.toList.take n := by
  unfold cutS
  rw [← tl_len]
  exact cut_to z.cps.toList n
theorem cutS_neg (z : Str) : (cutS z none (some (-1))).cps.toList = z.cps.toList.dropLast := by
  unfold cutS
  rw [← tl_len]
  exact cut_neg z.cps.toList
theorem atI_nat {α : Type} (xs : List α) (n : Nat) : atI xs (n : Int) = xs[n]? := by
  unfold atI ixN
  rw [if_pos (by omega)]
  by_cases h : n < xs.length
  · rw [if_pos (by omega)]
    show xs[(n : Int).toNat]? = _
    rw [Int.toNat_natCast]
  · rw [if_neg (by omega), List.getElem?_eq_none (by omega)]
    rfl
theorem atI_0 {α : Type} (a : α) (xs : List α) : atI (a :: xs) 0 = some a := atI_nat (a :: xs) 0
theorem atI_neg {α : Type} (xs : List α) : atI xs (-1) = xs.getLast? := by
  unfold atI ixN
  rw [if_neg (by decide)]
  by_cases h : xs = []
  · subst h
    rfl
  · have : 0 < xs.length := List.length_pos_iff.mpr h
    rw [if_pos (by omega)]
    show xs[((-1 : Int) + (xs.length : Int)).toNat]? = _
    rw [List.getLast?_eq_getElem?]
    congr 1
    omega
/-- what settings a tuple of ints is -/
def okSets (ns : List Int) (h : Int) : Bool := decide (ns.length ≤ 4) && (ns.all (fun n => isNum (some n) (1 - h) (h - 1) && n != 0) && (ns.zip (ns.drop 1)).all (fun p => decide (p.1 < p.2)))
def RAreSettings (as : List Sl) (M : Mp) (o : Out) : Prop := ∃ (ns : List Int) (h : Int), ns.length ≤ 90000 ∧ as = [.dat (.tuple (ns.map PyData.int)), I h] ∧ o = .rt (Bo (okSets ns h)) M
theorem sc_are_settings : FnScope ["value", "hours"] ["value", "hours"] (defScope s_are_settings) := ⟨rfl, rfl, rfl, by decide +kernel, rfl, by decide +kernel, by decide +kernel⟩
theorem df_are_settings {P : Program} {w : World} {c : Cg} {mg : Str → Option Value} {base : Heap} (T : Tq c mg base) : Df P w c mg base "are_settings" 3 0 RAreSettings := by
  obtain ⟨cc, D, TB⟩ := T.a_of
  obtain ⟨fn, fdn, Fn, mn, bn⟩ := T.d_is_number
  refine df_mkC D sc_are_settings (fun as M o ⟨_, _, _, h, _⟩ => by rw [h]; rfl) fun as M o hR f A outer s H E hr => ?_
  obtain ⟨ns, h, hz, rfl, rfl⟩ := hR
  refine ⟨_, ?_, .inl rfl⟩
  have hl : lenD (.tuple (ns.map PyData.int)) = ns.length := by show (ns.map PyData.int).length = _; rw [List.length_map]
  refine b_guard (t_w (w_or (t_not (t_val (d_blt (ds_cons (d_var 0) (ds_cons (d_ty (T := "tuple") T.b_tuple) ds_nil)) (y_isi "tuple" true) T.b_isinstance))) (fun h => w_or1 (t_cmp (d_blt (ds_cons (d_var 0) ds_nil) (y_len (by rw [hl]; omega)) T.b_len) (d_gint T.k_MOST_SETTINGS.choose_spec) x_gt)))) (fun k => ?_) (fun _ _ _ => nofun) (fun k => ?_)
  · refine b_cast (b_cons (s_ret d_bl) rfl) ?_
    have k := of_decide_eq_true ((Bool.false_or _).symm.trans k)
    rw [hl] at k
    have e : okSets ns h = false := by
      unfold okSets
      rw [decide_eq_false (by omega)]
      rfl
    rw [e]
  · have k := of_decide_eq_false ((Bool.false_or _).symm.trans k)
    rw [hl] at k
    refine b_guard (t_not (t_val (d_allT (q := fun n => isNum (some n) (1 - h) (h - 1) && n != 0) hr rfl T.b_all TB (.inr rfl) rfl (gsc_by (by decide +kernel)) (d_var 0)
      (fun pins σ H1 B1 s1 I w sl cenv A' E' n t s₂ m₂ hmem g hn hm => el_num Fn bn T.toTp mn g I (w.t.at (.inr rfl)) hr sl rfl hn hm rfl rfl rfl rfl (by decide) (gsc_by (by decide +kernel)).free (i := 1) rfl rfl)))) (fun k2 => ?_) (fun _ _ _ => nofun) (fun k2 => ?_)
    · refine b_cast (b_cons (s_ret d_bl) rfl) ?_
      have e : okSets ns h = false := by
        unfold okSets
        rw [show ns.all (fun n => isNum (some n) (1 - h) (h - 1) && n != 0) = false from (Bool.not_eq_true' _).mp k2]
        simp
      rw [e]
    · refine b_cast (b_cons (s_ret (d_allZ (q := fun p => decide (p.1 < p.2)) (ms := ns.drop 1) hr rfl T.b_all T.b_zip TB (.inr rfl) rfl (gsc_by (by decide +kernel)) (d_var 0) (ed_cast (d_sl (d_var 0) (o_some d_int) o_none sx_tup) (by rw [cutD_1, List.map_drop]))
        (fun pins σ H1 B1 s1 I w sl cenv A' E' a b t u s₂ m₂ g hn hma hmb => el_lt g rfl hn hma hmb rfl rfl))) rfl) ?_
      have e : okSets ns h = (ns.zip (ns.drop 1)).all (fun p => decide (p.1 < p.2)) := by
        unfold okSets
        rw [show ns.all (fun n => isNum (some n) (1 - h) (h - 1) && n != 0) = true from (Bool.not_eq_false' _).mp k2, decide_eq_true (by omega)]
        rfl
      rw [e]
end Zd
end
/-! ## P1 -/
section
set_option Elab.async false
set_option linter.all false
set_option maxRecDepth 100000
set_option maxHeartbeats 4000000
/-! Plain laws: texts cut at one sign. -/
namespace Zd
open PySem PySem.Spec PyProof.Rows L2
/-- l cut at each s -/
def sp1 (s : Nat) : List Nat → List Nat → List (List Nat)
  | acc, [] => [acc]
  | acc, ch :: r => if ch = s then acc :: sp1 s [] r else sp1 s (acc ++ [ch]) r
theorem spl_sp1 (s : Nat) : ∀ (l acc : List Nat), TL.spl [s] 0 acc l = sp1 s acc l
  | [], acc => rfl
  | ch :: r, acc => by
    unfold sp1
    by_cases h : ch = s
    · rw [if_pos h, TL.spl_hit (by rw [h]; exact TL.pre_self [s] r)]
      rw [show ([s] : List Nat).length - 1 = 0 from rfl, spl_sp1 s r []]
    · rw [if_neg h, TL.spl_miss (TL.pre_of_head [] r h), spl_sp1 s r]
theorem split_sp1 {x y : Str} {s : Nat} (hy : y.cps.toList = [s]) (hs : y.cps.all (· < 256) = true) : (Txt.split x y).map TL.tl = sp1 s [] x.cps.toList := by
  rw [TL.split_spl x y (by rw [show TL.tl y = [s] from hy]; simp) (TL.kind_ok hs), show TL.tl y = [s] from hy]
  exact spl_sp1 s _ _
theorem sp1_ne (s : Nat) : ∀ (l acc : List Nat), sp1 s acc l ≠ []
  | [], acc => by unfold sp1; simp
  | ch :: r, acc => by
    unfold sp1
    split
    · simp
    · exact sp1_ne s r _
theorem sp1_len (s : Nat) : ∀ (l acc : List Nat), (sp1 s acc l).length = l.count s + 1
  | [], acc => rfl
  | ch :: r, acc => by
    unfold sp1
    by_cases h : ch = s
    · rw [if_pos h, List.length_cons, sp1_len s r, h, List.count_cons_self]
    · rw [if_neg h, sp1_len s r, List.count_cons_of_ne h]
theorem sp1_mem (s : Nat) : ∀ (l acc : List Nat), ∀ p ∈ sp1 s acc l, p.length ≤ acc.length + l.length
  | [], acc, p, hp => by
    unfold sp1 at hp
    rw [List.mem_singleton.mp hp]
    exact Nat.le_add_right _ _
  | ch :: r, acc, p, hp => by
    unfold sp1 at hp
    by_cases h : ch = s
    · rw [if_pos h] at hp
      rcases List.mem_cons.mp hp with e | e
      · rw [e]
        exact Nat.le_add_right _ _
      · have := sp1_mem s r [] p e
        rw [List.length_nil, Nat.zero_add] at this
        rw [List.length_cons]
        omega
    · rw [if_neg h] at hp
      have := sp1_mem s r _ p hp
      rw [List.length_append, List.length_singleton] at this
      rw [List.length_cons]
      omega
theorem sp1_end (s : Nat) : ∀ (l acc : List Nat), sp1 s acc (l ++ [s]) = sp1 s acc l ++ [[]]
  | [], acc => by
    show (if s = s then acc :: sp1 s [] [] else _) = _
    rw [if_pos rfl]
    rfl
  | ch :: r, acc => by
    show (if ch = s then acc :: sp1 s [] (r ++ [s]) else sp1 s (acc ++ [ch]) (r ++ [s])) = (if ch = s then acc :: sp1 s [] r else sp1 s (acc ++ [ch]) r) ++ [[]]
    by_cases h : ch = s
    · rw [if_pos h, if_pos h, sp1_end s r]
      rfl
    · rw [if_neg h, if_neg h, sp1_end s r]
/-- the last part, where the text does not end by s -/
theorem sp1_last (s : Nat) : ∀ (l acc : List Nat), l.getLast? ≠ some s → (acc ≠ [] ∨ l ≠ []) → (sp1 s acc l).getLast? ≠ some []
  | [], acc, _, h => by
    unfold sp1
    intro z
    have z : acc = [] := by simpa using z
    rcases h with h | h
    · exact h z
    · exact h rfl
  | [ch], acc, hl, _ => by
    unfold sp1
    have : ch ≠ s := fun z => hl (by rw [z]; rfl)
    rw [if_neg this]
    unfold sp1
    simp
  | ch :: d :: r, acc, hl, _ => by
    unfold sp1
    have hl' : (d :: r).getLast? ≠ some s := fun z => hl (by rw [List.getLast?_cons_cons]; exact z)
    by_cases h : ch = s
    · rw [if_pos h]
      have ih := sp1_last s (d :: r) [] hl' (.inr (by simp))
      have ne := sp1_ne s (d :: r) []
      intro z
      apply ih
      cases q : sp1 s [] (d :: r) with
      | nil => exact absurd q ne
      | cons a b => rw [q, List.getLast?_cons_cons] at z; exact z
    · rw [if_neg h]
      exact sp1_last s (d :: r) _ hl' (.inr (by simp))
theorem split_len {x y : Str} {s : Nat} (hy : y.cps.toList = [s]) (hs : y.cps.all (· < 256) = true) : (Txt.split x y).length = x.cps.toList.count s + 1 := by
  rw [← List.length_map (f := TL.tl), split_sp1 hy hs, sp1_len]
theorem split_mem {x y p : Str} {s : Nat} (hy : y.cps.toList = [s]) (hs : y.cps.all (· < 256) = true) (hp : p ∈ Txt.split x y) : p.length ≤ x.length := by
  have := sp1_mem s x.cps.toList [] (TL.tl p) (by rw [← split_sp1 hy hs]; exact List.mem_map_of_mem hp)
  rw [TL.len_tl, TL.len_tl x]
  simpa using this
/-- a line's words -/
def wds (line : Str) : List Str := Txt.split line " "
theorem wds_len (z : Str) : 1 ≤ (wds z).length ∧ (wds z).length ≤ z.length + 1 := by
  unfold wds
  rw [split_len (s := 32) (by decide +kernel) (by decide +kernel)]
  have := List.count_le_length (a := 32) (l := z.cps.toList)
  rw [tl_len] at this
  omega
theorem wds_mem {z p : Str} (hp : p ∈ wds z) : p.length ≤ z.length := split_mem (s := 32) (by decide +kernel) (by decide +kernel) hp
theorem wds_get (z : Str) (i : Nat) : ((wds z).getD i "").length ≤ z.length := by
  rw [List.getD_eq_getElem?_getD]
  cases q : (wds z)[i]? with
  | none => exact Nat.zero_le _
  | some p => exact wds_mem (List.mem_of_getElem? q)
theorem at_strs {ps : List Str} {i : Nat} (h : i < ps.length) : atI (ps.map PyData.str) (i : Int) = some (.str (ps.getD i "")) := by
  rw [atI_nat, List.getElem?_map, List.getD_eq_getElem?_getD, List.getElem?_eq_getElem h]
  rfl
/-- a line "WORD n" -/
def oneOf (line word : Str) : Option Int := if (decide ((wds line).length = 2) && decide ((wds line).getD 0 "" = word)) = true then numOf ((wds line).getD 1 "") else none
/-- a line "WORD n to m" -/
def twoOf (line word : Str) : Option Int × Option Int := if (decide ((wds line).length = 4) && (decide ((wds line).getD 0 "" = word) && decide ((wds line).getD 2 "" = ("to" : Str)))) = true then (numOf ((wds line).getD 1 ""), numOf ((wds line).getD 3 "")) else (none, none)
def setOf (z : Str) : Option Int := match z.cps.toList with
  | 43 :: r => numOf ⟨r.toArray⟩
  | 45 :: r => (numOf ⟨r.toArray⟩).map fun n => 0 - n
  | _ => none
/-- a line "set .." -/
def setsOf (line : Str) : Option (List Int) := if line = ("set never" : Str) then some [] else
  if (decide ((wds line).getD 0 "" = ("set" : Str)) && (!((wds line).drop 1).isEmpty && ((wds line).drop 1).all fun p => (setOf p).isSome)) = true then some (((wds line).drop 1).map fun p => (setOf p).getD 0) else none
def oDs : Option (List Int) → PyData
  | none => .none
  | some ns => .tuple (ns.map PyData.int)
structure Alm where
  h : Int
  f : Int
  l : Int
  s : Int
  t : Int
  ns : List Int
  r : Int
def aD (A : Alm) : PyData := .tuple [.int A.h, .int A.f, .int A.l, .int A.s, .int A.t, .tuple (A.ns.map PyData.int), .int A.r]
def okAlm (A : Alm) : Bool := isNum (some A.h) 2 12 && (isNum (some A.f) 0 (A.h - 1) && (isNum (some A.l) A.f (A.f + A.h - 1) && (isNum (some A.s) 1 24 && (isNum (some A.t) A.s 24 && (okSets A.ns A.h && isNum (some A.r) 1 12)))))
end Zd
end
/-! ## T5 -/
section
set_option Elab.async false
set_option linter.all false
set_option maxRecDepth 100000
set_option maxHeartbeats 4000000
/-! Words and lines, the program's side. -/
namespace Zd
open PySem PySem.Spec PyProof.Rows L2
local macro_rules | `(tactic| walk_at "op") => `(tactic| first | exact x_add | exact x_sub | exact x_lt | exact x_le | exact x_gt | exact x_ge | exact x_eqI | exact x_neI | exact x_eqS | exact x_neS | exact x_isN | exact x_notN)
def numS (n : Int) : Str := Str.ofString (toString n)
theorem y_strN {X : Cx} {c : Cg} {n : Int} (h : n.natAbs < 10 ^ 30) : CallX c X (.type "str") [I n] (S (numS n)) := y_str (lg_small h)
theorem numS_len {n : Int} (h : n.natAbs < 10 ^ 30) : (numS n).length ≤ 40 := by
  unfold numS
  cases n with
  | ofNat m =>
    have := TL.tl_num m
    rw [TL.len_tl]
    show (TL.tl (Str.ofString (toString ((m : Nat) : Int)))).length ≤ 40
    rw [this]
    exact Nat.le_trans (TL.numL_len (k := 30) (by decide) (by simpa using h)) (by decide)
  | negSucc m =>
    have e : toString (Int.negSucc m) = "-" ++ toString (((m + 1 : Nat)) : Int) := by rfl
    rw [e, TL.len_tl, TL.tl_ofString, String.toList_append, List.map_append, List.length_append]
    have := TL.tl_num (m + 1)
    rw [TL.tl_ofString] at this
    rw [this]
    have := TL.numL_len (n := m + 1) (k := 30) (by decide) (by simpa using h)
    have e2 : (("-" : String).toList.map Char.toNat).length = 1 := by decide
    rw [e2]
    omega
def signedOf (n : Int) : Str := (if 0 < n then ("+" : Str) else ("-" : Str)) ++ numS (if n < 0 then -n else n)
def RSigned (as : List Sl) (M : Mp) (o : Out) : Prop := ∃ n : Int, n.natAbs < 10 ^ 30 ∧ as = [I n] ∧ o = .rt (S (signedOf n)) M
theorem sc_signed : FnScope ["number"] ["number"] (defScope s_signed) := ⟨rfl, rfl, rfl, by decide +kernel, rfl, by decide +kernel, by decide +kernel⟩
theorem df_signed {P : Program} {w : World} {c : Cg} {mg : Str → Option Value} {base : Heap} (T : Tq c mg base) : Df P w c mg base "signed" 1 0 RSigned :=
  df_mk T.d_signed sc_signed (fun as M o ⟨_, _, h, _⟩ => by rw [h]; rfl) fun as M o hR f cdv A outer s H E hr => by
    obtain ⟨n, hn, rfl, rfl⟩ := hR
    refine ⟨_, ?_, .inl rfl⟩
    have hn' : (if n < 0 then -n else n).natAbs < 10 ^ 30 := by split <;> omega
    have hl := numS_len hn'
    refine b_cons (s_ret (d_op (d_if (d := S (if 0 < n then ("+" : Str) else ("-" : Str))) (t_cmp (d_var 0) d_int x_gt) (fun h => ed_cast d_str (by rw [if_pos (of_decide_eq_true h)])) (fun h => ed_cast d_str (by rw [if_neg (of_decide_eq_false h)]))) (d_typ (ds_cons (d_blt (ds_cons (d_var 0) ds_nil) y_abs T.b_abs) ds_nil) (y_strN hn') T.b_str) (x_addS ?_))) rfl
    have : (if 0 < n then ("+" : Str) else ("-" : Str)).length ≤ 1 := by split <;> decide
    omega
theorem str1 {z : Str} {ch : Nat} : ((⟨#[ch]⟩ : Str) == z) = true ↔ z.cps.toList = [ch] := by
  rw [beq_iff_eq]
  exact ⟨fun h => by rw [← h], fun h => TL.ext_tl (by rw [show TL.tl z = [ch] from h])⟩
theorem eqvS (x y : Str) : PyData.eqv (.str x) (.str y) = (x == y) := rfl
/-- "+" or "-" ahead -/
def pm (z : Str) : Bool := z.cps.toList.head? == some 43 || z.cps.toList.head? == some 45
theorem pm_in (z : Str) : inD (.str (cutS z none (some 1))) [.str "+", .str "-"] = pm z := by
  have key : ∀ ch : Nat, ((⟨#[ch]⟩ : Str) == cutS z none (some 1)) = (z.cps.toList.head? == some ch) := fun ch => by
    rw [Bool.eq_iff_iff, str1, show (cutS z none (some 1)).cps.toList = z.cps.toList.take 1 from cutS_to z 1, beq_iff_eq]
    cases z.cps.toList with
    | nil => simp
    | cons a b => simp
  unfold inD pm
  rw [List.any_cons, List.any_cons, List.any_nil, Bool.or_false, eqvS, eqvS]
  rw [show ("+" : Str) = ⟨#[43]⟩ from rfl, show ("-" : Str) = ⟨#[45]⟩ from rfl, key, key]
theorem setOf_pm {z : Str} : setOf z = if pm z = true then (numOf (cutS z (some 1) none)).map (fun n => if z.cps.toList.head? = some 43 then n else 0 - n) else none := by
  have e : ∀ (ch : Nat) (r : List Nat), z.cps.toList = ch :: r → cutS z (some 1) none = ⟨r.toArray⟩ := fun ch r h => TL.ext_tl (by
    show (cutS z (some 1) none).cps.toList = r
    rw [show (cutS z (some 1) none).cps.toList = z.cps.toList.drop 1 from cutS_from z 1, h]
    rfl)
  unfold setOf pm
  cases q : z.cps.toList with
  | nil => rfl
  | cons ch r =>
    by_cases h1 : ch = 43
    · subst h1
      rw [e _ _ q]
      simp
    · by_cases h2 : ch = 45
      · subst h2
        rw [e _ _ q]
        simp
      · have : ((ch :: r).head? == some 43 || (ch :: r).head? == some 45) = false := by simp [h1, h2]
        rw [this, if_neg Bool.false_ne_true]
        split
        · rename_i h3
          exact absurd (List.cons.inj h3).1 h1
        · rename_i h3
          exact absurd (List.cons.inj h3).1 h2
        · rfl
theorem pm_cons {z : Str} (h : pm z = true) : ∃ ch, atI z.cps.toList 0 = some ch ∧ decide ((⟨#[ch]⟩ : Str) = ("+" : Str)) = decide (z.cps.toList.head? = some 43) := by
  unfold pm at h
  cases q : z.cps.toList with
  | nil => rw [q] at h; cases h
  | cons ch r =>
    refine ⟨ch, atI_0 _ _, ?_⟩
    rw [decide_eq_decide]
    constructor
    · intro e
      have : (⟨#[ch]⟩ : Str).cps.toList = ("+" : Str).cps.toList := by rw [e]
      have : [ch] = [43] := this
      rw [(List.cons.inj this).1]
      rfl
    · intro e
      cases e
      rfl
def RSettingOf (as : List Sl) (M : Mp) (o : Out) : Prop := ∃ z : Str, z.length ≤ 90000 ∧ as = [S z] ∧ o = .rt (.dat (oD (setOf z))) M
theorem sc_setting_of : FnScope ["word", "number"] ["word"] (defScope s_setting_of) := ⟨rfl, rfl, rfl, by decide +kernel, rfl, by decide +kernel, by decide +kernel⟩
theorem oD_non (o : Option Int) : isNon (oD o) = !o.isSome := by cases o <;> rfl
theorem df_setting_of {P : Program} {w : World} {c : Cg} {mg : Str → Option Value} {base : Heap} (T : Tq c mg base) : Df P w c mg base "setting_of" 2 0 RSettingOf :=
  df_mk T.d_setting_of sc_setting_of (fun as M o ⟨_, _, h, _⟩ => by rw [h]; rfl) fun as M o hR f cdv A outer s H E hr => by
    obtain ⟨z, hz, rfl, rfl⟩ := hR
    refine ⟨_, ?_, .inl rfl⟩
    have hc := cutS_length z (some 1) none
    refine b_cons (s_set 1 sc_setting_of.nd (d_call (df_number_of T) hr (ds_cons (d_sl (d_var 0) (o_some d_int) o_none (sx_str (by omega))) ds_nil) ⟨_, Nat.le_trans hc (by omega), rfl, rfl⟩)) ?_
    refine b_guard (t_w (w_or (t_cmp (d_sl (d_var 0) o_none (o_some d_int) (sx_str (by omega))) (d_tup (ds_cons d_str (ds_cons d_str ds_nil))) x_niT) (fun h => (w_or1 (t_cmp (d_var 1) d_non x_isN))))) (fun k => ?_) (fun _ _ _ => nofun) (fun k => ?_)
    · refine b_cast (b_cons (s_ret d_non) rfl) ?_
      rw [pm_in, oD_non] at k
      rw [setOf_pm]
      cases q : pm z with
      | false => rfl
      | true =>
        rw [q] at k
        cases q2 : numOf (cutS z (some 1) none) with
        | none => rfl
        | some n => rw [q2] at k; cases k
    · rw [pm_in, oD_non, Bool.or_eq_false_iff, Bool.not_eq_false', Bool.not_eq_false'] at k
      obtain ⟨k1, k2⟩ := k
      obtain ⟨ch, e1, e2⟩ := pm_cons k1
      rw [setOf_pm, if_pos k1]
      cases q2 : numOf (cutS z (some 1) none) with
      | none => rw [q2] at k2; cases k2
      | some n =>
        refine b_cons (s_ret (d_if (t_cmp (d_ix (d_var 0) d_int (x_ixS e1 (by omega))) d_str x_eqS) (fun h => ed_cast (d_var 1) ?_) (fun h => ed_cast (d_op d_int (d_var 1) x_sub) ?_))) rfl
        · rw [e2] at h
          show Sl.dat (.int n) = _
          rw [Option.map_some, if_pos (of_decide_eq_true h)]
          rfl
        · rw [e2] at h
          rw [Option.map_some, if_neg (of_decide_eq_false h)]
          rfl
end Zd
end
/-! ## T6 -/
section
set_option Elab.async false
set_option linter.all false
set_option maxRecDepth 100000
set_option maxHeartbeats 4000000
/-! Lines. -/
namespace Zd
open PySem PySem.Spec PyProof.Rows L2
local macro_rules | `(tactic| walk_at "op") => `(tactic| first | exact x_add | exact x_sub | exact x_lt | exact x_le | exact x_gt | exact x_ge | exact x_eqI | exact x_neI | exact x_eqS | exact x_neS | exact x_isN | exact x_notN)
section
variable {X : Cx} {c : Cg} {ds : List Sl} {M M1 M2 : Mp} {a b : Expr} {pos : Pos}
theorem d_wds {x : Str} {apos : Pos} (h : PE X a (tD c ds M (S x) M1)) (h' : PE X b (tD c ds M1 (S " ") M2)) (hx : x.length ≤ 90000)
    (hs : starEach [b] X.env = [(false, eval b X.env)] := by rfl) (hbase : attributeBase a "split" X.env (eval a X.env) = eval a X.env := by rfl) (hline : (apos.endLine == pos.line) = true := by rfl) :
    PE X (.Call (.Attribute a "split" apos) [b] [] pos) (tD c ds M (.dat (.list ((wds x).map PyData.str))) M2) := d_split h h' (by decide) hx hs hbase hline
theorem y_lenL {α : Type} {g : α → PyData} {ps : List α} (h : ps.length ≤ 100000) (hK : X.K = c.K := by rfl) : CallX c X (.builtin "len") [.dat (.list (ps.map g))] (I (ps.length : Nat)) := by
  have := y_len (X := X) (c := c) (D := .list (ps.map g)) (by show (ps.map g).length ≤ _; rw [List.length_map]; exact h) True.intro hK
  rw [show lenD (.list (ps.map g)) = ps.length from List.length_map ..] at this
  exact this
theorem y_lenT {α : Type} {g : α → PyData} {ps : List α} (h : ps.length ≤ 100000) (hK : X.K = c.K := by rfl) : CallX c X (.builtin "len") [.dat (.tuple (ps.map g))] (I (ps.length : Nat)) := by
  have := y_len (X := X) (c := c) (D := .tuple (ps.map g)) (by show (ps.map g).length ≤ _; rw [List.length_map]; exact h) True.intro hK
  rw [show lenD (.tuple (ps.map g)) = ps.length from List.length_map ..] at this
  exact this
theorem x_str {ps : List Str} {i : Nat} (h : i < ps.length) (hK : X.K = c.K := by rfl) : IxX c X (.dat (.list (ps.map PyData.str))) (I (i : Int)) (S (ps.getD i "")) := x_ixL (at_strs h) hK
end
theorem dnat {n m : Nat} : decide (((n : Nat) : Int) = ((m : Nat) : Int)) = decide (n = m) := decide_eq_decide.mpr (by omega)
def ROne (as : List Sl) (M : Mp) (o : Out) : Prop := ∃ line word : Str, line.length ≤ 80000 ∧ as = [S line, S word] ∧ o = .rt (.dat (oD (oneOf line word))) M
theorem sc_one_number : FnScope ["line", "word", "parts"] ["line", "word"] (defScope s_one_number) := ⟨rfl, rfl, rfl, by decide +kernel, rfl, by decide +kernel, by decide +kernel⟩
theorem df_one_number {P : Program} {w : World} {c : Cg} {mg : Str → Option Value} {base : Heap} (T : Tq c mg base) : Df P w c mg base "one_number" 2 0 ROne :=
  df_mk T.d_one_number sc_one_number (fun as M o ⟨_, _, _, h, _⟩ => by rw [h]; rfl) fun as M o hR f cdv A outer s H E hr => by
    obtain ⟨line, word, hz, rfl, rfl⟩ := hR
    refine ⟨_, ?_, .inl rfl⟩
    have hl := wds_len line
    refine b_cons (s_set 2 sc_one_number.nd (d_wds (d_var 0) d_str (by omega))) ?_
    refine b_cons (s_ret (d_if (t_w (w_and (t_cmp (d_blt (ds_cons (d_var 2) ds_nil) (y_lenL (by omega)) T.b_len) d_int x_eqI) (fun h => (w_and1 (t_cmp (d_ix (d_var 2) d_int (x_str (i := 0) (by have := of_decide_eq_true h; omega))) (d_var 1) x_eqS)))))
      (fun h => ed_cast (d_call (df_number_of T) hr (ds_cons (d_ix (d_var 2) d_int (x_str (i := 1) ?_)) ds_nil) ⟨_, Nat.le_trans (wds_get line 1) (by omega), rfl, rfl⟩) ?_) (fun h => ed_cast d_non ?_))) rfl
    · rw [Bool.and_eq_true] at h
      have := of_decide_eq_true h.1
      omega
    · rw [show decide (((wds line).length : Int) = 2) = decide ((wds line).length = 2) from dnat] at h
      unfold oneOf
      rw [if_pos h]
    · rw [show decide (((wds line).length : Int) = 2) = decide ((wds line).length = 2) from dnat] at h
      unfold oneOf
      rw [if_neg (by rw [h]; exact Bool.false_ne_true)]
      rfl
def o2D (p : Option Int × Option Int) : PyData := .tuple [oD p.1, oD p.2]
def RTwo (as : List Sl) (M : Mp) (o : Out) : Prop := ∃ line word : Str, line.length ≤ 80000 ∧ as = [S line, S word] ∧ o = .rt (.dat (o2D (twoOf line word))) M
theorem sc_two_numbers : FnScope ["line", "word", "parts"] ["line", "word"] (defScope s_two_numbers) := ⟨rfl, rfl, rfl, by decide +kernel, rfl, by decide +kernel, by decide +kernel⟩
theorem two_neg {a b c : Bool} (h : ((!a) || ((!b) || !c)) = true) : (a && (b && c)) = false := by cases a <;> cases b <;> cases c <;> first | rfl | cases h
theorem two_pos {a b c : Bool} (h : ((!a) || ((!b) || !c)) = false) : (a && (b && c)) = true := by cases a <;> cases b <;> cases c <;> first | rfl | cases h
theorem df_two_numbers {P : Program} {w : World} {c : Cg} {mg : Str → Option Value} {base : Heap} (T : Tq c mg base) : Df P w c mg base "two_numbers" 2 0 RTwo :=
  df_mk T.d_two_numbers sc_two_numbers (fun as M o ⟨_, _, _, h, _⟩ => by rw [h]; rfl) fun as M o hR f cdv A outer s H E hr => by
    obtain ⟨line, word, hz, rfl, rfl⟩ := hR
    refine ⟨_, ?_, .inl rfl⟩
    have hl := wds_len line
    refine b_cons (s_set 2 sc_two_numbers.nd (d_wds (d_var 0) d_str (by omega))) ?_
    refine b_guard (t_w (w_or (t_cmp (d_blt (ds_cons (d_var 2) ds_nil) (y_lenL (by omega)) T.b_len) d_int x_neI) (fun h => (w_or (t_cmp (d_ix (d_var 2) d_int (x_str (i := 0) (by have := of_decide_eq_true ((Bool.not_eq_false' _).mp h); omega))) (d_var 1) x_neS) (fun _ => (w_or1 (t_cmp (d_ix (d_var 2) d_int (x_str (i := 2) (by have := of_decide_eq_true ((Bool.not_eq_false' _).mp h); omega))) d_str x_neS)))))))
      (fun k => ?_) (fun _ _ _ => nofun) (fun k => ?_)
    · have k := two_neg k
      rw [show decide (((wds line).length : Int) = 4) = decide ((wds line).length = 4) from dnat] at k
      refine b_cast (b_cons (s_ret (d_tup (ds_cons d_non (ds_cons d_non ds_nil)))) rfl) ?_
      unfold twoOf
      rw [if_neg (by rw [k]; exact Bool.false_ne_true)]
      rfl
    · have k := two_pos k
      have l4 := of_decide_eq_true (Bool.and_eq_true_iff.mp k).1
      rw [show decide (((wds line).length : Int) = 4) = decide ((wds line).length = 4) from dnat] at k
      refine b_cast (b_cons (s_ret (d_tup (ds_cons (d_call (df_number_of T) hr (ds_cons (d_ix (d_var 2) d_int (x_str (i := 1) (by omega))) ds_nil) ⟨_, Nat.le_trans (wds_get line 1) (by omega), rfl, rfl⟩) (ds_cons (d_call (df_number_of T) hr (ds_cons (d_ix (d_var 2) d_int (x_str (i := 3) (by omega))) ds_nil) ⟨_, Nat.le_trans (wds_get line 3) (by omega), rfl, rfl⟩) ds_nil)))) rfl) ?_
      unfold twoOf
      rw [if_pos k]
      rfl
def RSettingsOf (as : List Sl) (M : Mp) (o : Out) : Prop := ∃ line : Str, line.length ≤ 80000 ∧ as = [S line] ∧ o = .rt (.dat (oDs (setsOf line))) M
theorem sc_settings_of : FnScope ["line", "parts", "found", "part"] ["line"] (defScope s_settings_of) := ⟨rfl, rfl, rfl, by decide +kernel, rfl, by decide +kernel, by decide +kernel⟩
theorem inD_none : ∀ (l : List (Option Int)), inD .none (l.map oD) = !l.all (·.isSome)
  | [] => rfl
  | o :: l => by
    have ih := inD_none l
    unfold inD at ih ⊢
    rw [List.map_cons, List.any_cons, ih, List.all_cons]
    cases o with
    | none => rfl
    | some i =>
      show (false || _) = !(true && _)
      simp
theorem fl_oD (l : List (Option Int)) : (l.map oD).all flD = true := by
  rw [List.all_map, List.all_eq_true]
  intro o _
  cases o <;> rfl
theorem oD_all {l : List (Option Int)} (h : l.all (·.isSome) = true) : l.map oD = (l.map fun o => o.getD 0).map PyData.int := by
  rw [List.map_map]
  refine List.map_congr_left fun o ho => ?_
  have := List.all_eq_true.mp h o ho
  cases o with
  | none => cases this
  | some i => rfl
theorem trT {xs : List PyData} : trD (.tuple xs) = !xs.isEmpty := rfl
theorem isE_map {α β : Type} {f : α → β} (l : List α) : (l.map f).isEmpty = l.isEmpty := by cases l <;> rfl
theorem df_settings_of {P : Program} {w : World} {c : Cg} {mg : Str → Option Value} {base : Heap} (T : Tq c mg base) : Df P w c mg base "settings_of" 3 0 RSettingsOf :=
  df_mk T.d_settings_of sc_settings_of (fun as M o ⟨_, _, h, _⟩ => by rw [h]; rfl) fun as M o hR f cdv A outer s H E hr => by
    obtain ⟨line, hz, rfl, rfl⟩ := hR
    refine ⟨_, ?_, .inl rfl⟩
    have hl := wds_len line
    refine b_guard (t_cmp (d_var 0) d_str x_eqS) (fun k => ?_) (fun _ _ _ => nofun) (fun k => ?_)
    · refine b_cast (b_cons (s_ret (d_tup ds_nil)) rfl) ?_
      unfold setsOf
      rw [if_pos (of_decide_eq_true k)]
      rfl
    · refine b_cons (s_set 1 sc_settings_of.nd (d_wds (d_var 0) d_str (by omega))) ?_
      have hdl : ((wds line).drop 1).length ≤ 90000 := by rw [List.length_drop]; omega
      refine b_cons (s_set 2 sc_settings_of.nd (d_typ (ds_cons (d_lc (as := (wds line).drop 1) (g := PyData.str) (own := [("part", 3)]) (fun _ => true) (fun p => oD (setOf p)) (fun p => _) [3] rfl (by rfl) sc_settings_of.nd (blkOk_cx (by decide +kernel)) (i_lst (ed_cast (d_sl (d_var 1) (o_some d_int) o_none sx_list) (by rw [cutD_1, List.map_drop]))) (by decide) hdl (fun a ha s H C cl fp => (g_name 3 sc_settings_of.nd)) (fun a ha s H C cl fp => ts_nil) (fun a ha hp s H C cl fp => (d_call (df_setting_of T) hr (ds_cons (d_var 3) ds_nil) ⟨_, Nat.le_trans (wds_mem (List.mem_of_mem_drop ha)) (by omega), rfl, rfl⟩))) ds_nil) y_tupL T.b_tuple)) ?_
      have ef : ((((wds line).drop 1).filter fun _ => true).map fun p => oD (setOf p)) = (((wds line).drop 1).map setOf).map oD := by rw [List.filter_eq_self.mpr (fun _ _ => rfl), List.map_map]; rfl
      rw [ef]
      have hml : (((wds line).drop 1).map setOf).length ≤ 90000 := by rw [List.length_map]; exact hdl
      refine b_cons (s_ret (d_if (t_w (w_or (t_cmp (d_ix (d_var 1) d_int (x_str (i := 0) (by omega))) d_str x_neS) (fun h => (w_or (t_not (t_truth (d_var 2) (hl := sz_ok (by show (List.map oD _).length ≤ _; rw [List.length_map]; omega)))) (fun h => (w_or1 (t_cmp d_non (d_var 2) (x_inT rfl (fl_oD _)))))))))
        (fun h => ed_cast d_non ?_) (fun h => ed_cast (d_var 2) ?_))) rfl
      · rw [inD_none, trT, isE_map, isE_map, List.all_map] at h
        have h := two_neg h
        unfold setsOf
        rw [if_neg (of_decide_eq_false k), if_neg (by rw [show ((wds line).drop 1).all (fun p => (setOf p).isSome) = ((wds line).drop 1).all ((fun x => x.isSome) ∘ setOf) from rfl, h]; exact Bool.false_ne_true)]
        rfl
      · rw [inD_none, trT, isE_map, isE_map, List.all_map] at h
        have h := two_pos h
        unfold setsOf
        rw [if_neg (of_decide_eq_false k), if_pos (by exact h)]
        rw [oD_all (by rw [List.all_map]; exact (Bool.and_eq_true_iff.mp (Bool.and_eq_true_iff.mp h).2).2)]
        unfold oDs
        simp only [List.map_map]
        rfl
end Zd
end
/-! ## T7 -/
section
set_option Elab.async false
set_option linter.all false
set_option maxRecDepth 100000
set_option maxHeartbeats 4000000
/-! Almanacs and stories. -/
namespace Zd
open PySem PySem.Spec PyProof.Rows L2
theorem and7 {a b c d e f g : Bool} (h : (a && (b && (c && (d && (e && (f && g)))))) = true) : a = true ∧ b = true ∧ c = true ∧ d = true ∧ e = true ∧ f = true ∧ g = true := by
  simp only [Bool.and_eq_true] at h
  exact h
def RNeed (as : List Sl) (M : Mp) (o : Out) : Prop := ∃ A : Alm, okAlm A = true ∧ as = [.dat (aD A)] ∧ o = .rt (.dat .none) M
theorem sc_need_almanac : FnScope ["value", "hours", "first", "last", "soon", "late", "settings", "rest"] ["value"] (defScope s_need_almanac) := ⟨rfl, rfl, rfl, by decide +kernel, rfl, by decide +kernel, by decide +kernel⟩
theorem okSets_len {ns : List Int} {h : Int} (k : okSets ns h = true) : ns.length ≤ 4 := by
  unfold okSets at k
  exact of_decide_eq_true (Bool.and_eq_true_iff.mp k).1
theorem df_need_almanac {P : Program} {w : World} {c : Cg} {mg : Str → Option Value} {base : Heap} (T : Tq c mg base) : Df P w c mg base "need_almanac" 4 0 RNeed :=
  df_mk T.d_need_almanac sc_need_almanac (fun as M o ⟨_, _, h, _⟩ => by rw [h]; rfl) fun as M o hR f cdv A outer s H E hr => by
    obtain ⟨A, hA, rfl, rfl⟩ := hR
    refine ⟨.nx [.no, .no, .no, .no, .no, .no, .no, .no] M, ?_, .inr ⟨_, _, rfl, rfl⟩⟩
    obtain ⟨a1, a2, a3, a4, a5, a6, a7⟩ := and7 hA
    have l4 := okSets_len a6
    refine b_skip (et_cast (t_w (w_or (t_not (t_val (d_blt (ds_cons (d_var 0) (ds_cons (d_ty (T := "tuple") T.b_tuple) ds_nil)) (y_isi "tuple" true) T.b_isinstance))) (fun h => (w_or1 (t_cmp (d_blt (ds_cons (d_var 0) ds_nil) (y_len (D := aD A) (Nat.le_of_ble_eq_true rfl)) T.b_len) d_int x_neI))))) rfl) ?_
    refine b_cons (s_asg (d_var 0) (g_tup (gs_cons (g_name 1 sc_need_almanac.nd) (gs_cons (g_name 2 sc_need_almanac.nd) (gs_cons (g_name 3 sc_need_almanac.nd) (gs_cons (g_name 4 sc_need_almanac.nd) (gs_cons (g_name 5 sc_need_almanac.nd) (gs_cons (g_name 6 sc_need_almanac.nd) (gs_cons (g_name 7 sc_need_almanac.nd) gs_nil))))))))) ?_
    refine b_skip (et_cast (t_not (t_val (d_call (df_is_number T.toTp) hr (ds_cons (d_var 1) (ds_cons (d_gint T.k_LEAST_HOURS.choose_spec) (ds_cons (d_gint T.k_MOST_HOURS.choose_spec) ds_nil))) ⟨some A.h, 2, 12, rfl, rfl⟩))) (by rw [a1]; rfl)) ?_
    refine b_skip (et_cast (t_not (t_val (d_call (df_is_number T.toTp) hr (ds_cons (d_var 2) (ds_cons d_int (ds_cons (d_op (d_var 1) d_int x_sub) ds_nil))) ⟨some A.f, 0, A.h - 1, rfl, rfl⟩))) (by rw [a2]; rfl)) ?_
    refine b_skip (et_cast (t_not (t_val (d_call (df_is_number T.toTp) hr (ds_cons (d_var 3) (ds_cons (d_var 2) (ds_cons (d_op (d_op (d_var 2) (d_var 1) x_add) d_int x_sub) ds_nil))) ⟨some A.l, A.f, A.f + A.h - 1, rfl, rfl⟩))) (by rw [a3]; rfl)) ?_
    refine b_skip (et_cast (t_not (t_val (d_call (df_is_number T.toTp) hr (ds_cons (d_var 4) (ds_cons d_int (ds_cons (d_gint T.k_MOST_LATE.choose_spec) ds_nil))) ⟨some A.s, 1, 24, rfl, rfl⟩))) (by rw [a4]; rfl)) ?_
    refine b_skip (et_cast (t_not (t_val (d_call (df_is_number T.toTp) hr (ds_cons (d_var 5) (ds_cons (d_var 4) (ds_cons (d_gint T.k_MOST_LATE.choose_spec) ds_nil))) ⟨some A.t, A.s, 24, rfl, rfl⟩))) (by rw [a5]; rfl)) ?_
    refine b_skip (et_cast (t_not (t_val (d_call (df_are_settings T) hr (ds_cons (d_var 6) (ds_cons (d_var 1) ds_nil)) ⟨A.ns, A.h, by omega, rfl, rfl⟩))) (by rw [a6]; rfl)) ?_
    refine b_skip (et_cast (t_not (t_val (d_call (df_is_number T.toTp) hr (ds_cons (d_var 7) (ds_cons d_int (ds_cons (d_gint T.k_MOST_REST.choose_spec) ds_nil))) ⟨some A.r, 1, 12, rfl, rfl⟩))) (by rw [a7]; rfl)) ?_
    exact b_weak b_nil
/-- wakings -/
def okWak (A : Alm) (ws : List Int) : Bool := decide (1 ≤ ws.length) && (decide (ws.length ≤ 60) && (isNum (some (ws.getD 0 1)) 0 0 && (ws.zip (ws.drop 1)).all (fun p => isNum (some p.2) (p.1 + A.s) (p.1 + A.t))))
def RWak (as : List Sl) (M : Mp) (o : Out) : Prop := ∃ (A : Alm) (ws : List Int), ws.length ≤ 80000 ∧ as = [.dat (aD A), .dat (.tuple (ws.map PyData.int))] ∧ o = .rt (Bo (okWak A ws)) M
theorem sc_are_wakings : FnScope ["almanac", "value", "one", "other"] ["almanac", "value"] (defScope s_are_wakings) := ⟨rfl, rfl, rfl, by decide +kernel, rfl, by decide +kernel, by decide +kernel⟩
theorem zipD_map (xs ys : List Int) : zipD (xs.map PyData.int) (ys.map PyData.int) = (xs.zip ys).map fun p => .tuple [.int p.1, .int p.2] := by
  unfold zipD
  rw [List.zipWith_map, List.zip, List.map_zipWith]
theorem at_ints {ns : List Int} {i : Nat} {d : Int} (h : i < ns.length) : atI (ns.map PyData.int) (i : Int) = some (.int (ns.getD i d)) := by
  rw [atI_nat, List.getElem?_map, List.getD_eq_getElem?_getD, List.getElem?_eq_getElem h]
  rfl
theorem df_are_wakings {P : Program} {w : World} {c : Cg} {mg : Str → Option Value} {base : Heap} (T : Tq c mg base) : Df P w c mg base "are_wakings" 2 0 RWak :=
  df_mk T.d_are_wakings sc_are_wakings (fun as M o ⟨_, _, _, h, _⟩ => by rw [h]; rfl) fun as M o hR f cdv A outer s H E hr => by
    obtain ⟨A, ws, hw, rfl, rfl⟩ := hR
    refine ⟨_, ?_, .inl rfl⟩
    refine b_guard (t_w (w_or (t_not (t_val (d_blt (ds_cons (d_var 1) (ds_cons (d_ty (T := "tuple") T.b_tuple) ds_nil)) (y_isi "tuple" true) T.b_isinstance))) (fun h => (w_or (t_not (t_chain d_int (d_blt (ds_cons (d_var 1) ds_nil) (y_lenT (by omega)) T.b_len) (d_gint T.k_MOST_WAKINGS.choose_spec) x_le x_le)) (fun h => (w_or1 (t_not (t_val (d_call (df_is_number T.toTp) hr (ds_cons (d_ix (d_var 1) d_int (x_ixT (at_ints (i := 0) (d := 1) (by have := of_decide_eq_true (Bool.and_eq_true_iff.mp ((Bool.not_eq_false' _).mp h)).1; omega)))) (ds_cons d_int (ds_cons d_int ds_nil))) ⟨some (ws.getD 0 1), 0, 0, rfl, rfl⟩))))))))) (fun k => ?_) (fun _ _ _ => nofun) (fun k => ?_)
    · refine b_cast (b_cons (s_ret d_bl) rfl) ?_
      have e : okWak A ws = false := by
        unfold okWak
        rw [show decide (1 ≤ ws.length) = decide ((1 : Int) ≤ (ws.length : Int)) from decide_eq_decide.mpr (by omega), show decide (ws.length ≤ 60) = decide ((ws.length : Int) ≤ 60) from decide_eq_decide.mpr (by omega)]
        cases h1 : decide ((1 : Int) ≤ (ws.length : Int)) <;> cases h2 : decide ((ws.length : Int) ≤ 60) <;> cases h3 : isNum (some (ws.getD 0 1)) 0 0 <;> first | rfl | (rw [h1, h2, h3] at k; cases k)
      rw [e]
    · have e : okWak A ws = (ws.zip (ws.drop 1)).all (fun p => isNum (some p.2) (p.1 + A.s) (p.1 + A.t)) := by
        unfold okWak
        rw [show decide (1 ≤ ws.length) = decide ((1 : Int) ≤ (ws.length : Int)) from decide_eq_decide.mpr (by omega), show decide (ws.length ≤ 60) = decide ((ws.length : Int) ≤ 60) from decide_eq_decide.mpr (by omega)]
        cases h1 : decide ((1 : Int) ≤ (ws.length : Int)) <;> cases h2 : decide ((ws.length : Int) ≤ 60) <;> cases h3 : isNum (some (ws.getD 0 1)) 0 0 <;> first | rfl | (rw [h1, h2, h3] at k; cases k)
      rw [e]
      refine b_cons (s_forall (as := ws.zip (ws.drop 1)) (g := fun p => .tuple [.int p.1, .int p.2]) (fun p => isNum (some p.2) (p.1 + A.s) (p.1 + A.t)) (fun p => _) _ (by rw [zipD_map]) (passes_of rfl) rfl (i_zipT (d_var 1) (ed_cast (d_sl (d_var 1) (o_some d_int) o_none sx_tup) (by rw [cutD_1, List.map_drop])) T.b_zip)
        (fun p _ => g_tup (gs_cons (g_name 2 sc_are_wakings.nd) (gs_cons (g_name 3 sc_are_wakings.nd) gs_nil))) (fun p _ => ?_) (d := Bo false)) ?_
      · refine b_guard (t_not (t_val (d_call (df_is_number T.toTp) hr (ds_cons (d_var 3) (ds_cons (d_op (d_var 2) (d_ix (d_var 0) d_int (x_ixT (D := .int A.s) rfl)) x_add) (ds_cons (d_op (d_var 2) (d_ix (d_var 0) d_int (x_ixT (D := .int A.t) rfl)) x_add) ds_nil))) ⟨some p.2, p.1 + A.s, p.1 + A.t, rfl, rfl⟩))) (fun k => ?_) (fun k => ?_) (fun k => ?_)
        · rw [if_neg (by rw [(Bool.not_eq_true' _).mp k]; exact Bool.false_ne_true)]
          exact b_cons (s_ret d_bl) rfl
        · rw [if_neg (by rw [(Bool.not_eq_true' _).mp k]; exact Bool.false_ne_true)]
          exact fun _ _ => nofun
        · rw [if_pos ((Bool.not_eq_false' _).mp k)]
          exact b_weak b_nil
      · cases hq : (ws.zip (ws.drop 1)).all (fun p => isNum (some p.2) (p.1 + A.s) (p.1 + A.t)) with
        | true => exact b_cons (s_ret d_bl) rfl
        | false => exact rfl
end Zd
end
/-! ## T8 -/
section
set_option Elab.async false
set_option linter.all false
set_option maxRecDepth 100000
set_option maxHeartbeats 4000000
/-! Stories. -/
namespace Zd
open PySem PySem.Spec PyProof.Rows L2
def prD (p : Int × Int) : PyData := .tuple [.int p.1, .int p.2]
def psD (ps : List (Int × Int)) : PyData := .tuple (ps.map prD)
def inNs (x : Int) (ns : List Int) : Bool := inD (.int x) (ns.map PyData.int)
theorem fl_ints (ns : List Int) : (ns.map PyData.int).all flD = true := by
  rw [List.all_map, List.all_eq_true]
  intro n _
  rfl
theorem eqvI (a b : Int) : PyData.eqv (.int a) (.int b) = (a == b) := by
  show (same (.int a) (.int b)) = _
  rfl
theorem inNs_iff {x : Int} {ns : List Int} : inNs x ns = true ↔ x ∈ ns := by
  unfold inNs inD
  rw [List.any_map, List.any_eq_true]
  constructor
  · rintro ⟨y, hy, e⟩
    have e : (y == x) = true := e
    rw [← eq_of_beq e]
    exact hy
  · intro h
    exact ⟨x, h, by show (x == x) = true; exact beq_self_eq_true x⟩
/-- one setting of a story, from the least hour on -/
def stStep (A : Alm) (en : Int) (least : Int) (p : Int × Int) : Sum Bool Int := if (isNum (some p.1) least en && inNs p.2 A.ns) = true then .inr (p.1 + A.r) else .inl false
def okSt (A : Alm) (en : Int) : Int → List (Int × Int) → Bool
  | _, [] => true
  | least, p :: r => isNum (some p.1) least en && (inNs p.2 A.ns && okSt A en (p.1 + A.r) r)
def RSets (as : List Sl) (M : Mp) (o : Out) : Prop := ∃ (A : Alm) (ps : List (Int × Int)) (en : Int), ps.length ≤ 80000 ∧ as = [.dat (aD A), .dat (psD ps), I en] ∧ o = .rt (Bo (okSt A en 1 ps)) M
theorem sc_are_sets : FnScope ["almanac", "value", "end", "least", "pair"] ["almanac", "value", "end"] (defScope s_are_sets) := ⟨rfl, rfl, rfl, by decide +kernel, rfl, by decide +kernel, by decide +kernel⟩
def stp (A : Alm) (en : Int) (M : Mp) (least : Int) (p : Int × Int) : Sum Out Int := if (isNum (some p.1) least en && inNs p.2 A.ns) = true then .inr (p.1 + A.r) else .inl (.rt (Bo false) M)
theorem stp_ok {A : Alm} {en : Int} {M : Mp} : ∀ (ps : List (Int × Int)) (least : Int), (okSt A en least ps = true ∧ ∃ l, scanS (stp A en M) least ps = .inr l) ∨ (okSt A en least ps = false ∧ scanS (stp A en M) least ps = .inl (.rt (Bo false) M))
  | [], least => .inl ⟨rfl, least, rfl⟩
  | p :: r, least => by
    show ((isNum (some p.1) least en && (inNs p.2 A.ns && okSt A en (p.1 + A.r) r)) = true ∧ ∃ l, thenS (stp A en M least p) (fun s' => scanS (stp A en M) s' r) = .inr l) ∨ ((isNum (some p.1) least en && (inNs p.2 A.ns && okSt A en (p.1 + A.r) r)) = false ∧ thenS (stp A en M least p) (fun s' => scanS (stp A en M) s' r) = .inl (.rt (Bo false) M))
    unfold stp
    rw [← Bool.and_assoc]
    cases h : (isNum (some p.1) least en && inNs p.2 A.ns) with
    | false => exact .inr ⟨rfl, rfl⟩
    | true =>
      rw [if_pos rfl, Bool.true_and]
      exact stp_ok r (p.1 + A.r)
theorem df_are_sets {P : Program} {w : World} {c : Cg} {mg : Str → Option Value} {base : Heap} (T : Tq c mg base) : Df P w c mg base "are_sets" 2 0 RSets :=
  df_mk T.d_are_sets sc_are_sets (fun as M o ⟨_, _, _, _, h, _⟩ => by rw [h]; rfl) fun as M o hR f cdv A outer s H E hr => by
    obtain ⟨A, ps, en, hw, rfl, rfl⟩ := hR
    refine ⟨_, ?_, .inl rfl⟩
    refine b_skip (et_cast (t_not (t_val (d_blt (ds_cons (d_var 1) (ds_cons (d_ty (T := "tuple") T.b_tuple) ds_nil)) (y_isi "tuple" true) T.b_isinstance))) rfl) ?_
    refine b_cons (s_set 3 sc_are_sets.nd d_int) ?_
    refine b_cons (s_scan (as := ps) (g := prD) (stp A en M) 1 (fun l => [.dat (aD A), .dat (psD ps), I en, I l, .no]) (fun _ => M) (fun l p => [.dat (aD A), .dat (psD ps), I en, I l, .dat (prD p)]) [4] (fun _ => True) rfl (passes_of rfl) rfl (i_tup (d_var 1)) True.intro (fun _ _ _ _ _ _ => True.intro) (fun l p ds' M' => ?_)
      (fun l p _ _ => g_name 4 sc_are_sets.nd) (fun l p _ _ => ?_)) ?_
    · unfold stp
      split <;> exact nofun
    · unfold stp
      refine b_guard (t_w (w_or (t_not (t_val (d_blt (ds_cons (d_var 4) (ds_cons (d_ty (T := "tuple") T.b_tuple) ds_nil)) (y_isi "tuple" true) T.b_isinstance))) (fun h => (w_or (t_cmp (d_blt (ds_cons (d_var 4) ds_nil) (y_len (D := prD p) (Nat.le_of_ble_eq_true rfl)) T.b_len) d_int x_neI) (fun h => (w_or1 (t_not (t_val (d_call (df_is_number T.toTp) hr (ds_cons (d_ix (d_var 4) d_int (x_ixT (D := .int p.1) rfl)) (ds_cons (d_var 3) (ds_cons (d_var 2) ds_nil))) ⟨some p.1, l, en, rfl, rfl⟩)))))))))
        (fun k => ?_) (fun k => ?_) (fun k => ?_)
      · have k : isNum (some p.1) l en = false := (Bool.not_eq_true' _).mp k
        rw [k]
        exact b_cons (s_ret d_bl) rfl
      · have k : isNum (some p.1) l en = false := (Bool.not_eq_true' _).mp k
        rw [k]
        exact fun _ _ => nofun
      · have k : isNum (some p.1) l en = true := (Bool.not_eq_false' _).mp k
        rw [k, Bool.true_and]
        refine b_guard (t_w (w_or (t_val (d_blt (ds_cons (d_ix (d_var 4) d_int (x_ixT (D := .int p.2) rfl)) (ds_cons (d_ty (T := "bool") T.b_bool) ds_nil)) (y_isi "int" false) T.b_isinstance)) (fun h => (w_or (t_not (t_val (d_blt (ds_cons (d_ix (d_var 4) d_int (x_ixT (D := .int p.2) rfl)) (ds_cons (d_ty (T := "int") T.b_int) ds_nil)) (y_isi "int" true) T.b_isinstance))) (fun h => (w_or1 (t_cmp (d_ix (d_var 4) d_int (x_ixT (D := .int p.2) rfl)) (d_ix (d_var 0) d_int (x_ixT (D := .tuple (A.ns.map PyData.int)) rfl)) (x_niT rfl (fl_ints _)))))))))
          (fun k => ?_) (fun k => ?_) (fun k => ?_)
        · have k : inNs p.2 A.ns = false := (Bool.not_eq_true' _).mp k
          rw [k]
          exact b_cons (s_ret d_bl) rfl
        · have k : inNs p.2 A.ns = false := (Bool.not_eq_true' _).mp k
          rw [k]
          exact fun _ _ => nofun
        · have k : inNs p.2 A.ns = true := (Bool.not_eq_false' _).mp k
          rw [k]
          exact b_weak (b_cons (s_set 3 sc_are_sets.nd (d_op (d_ix (d_var 4) d_int (x_ixT (D := .int p.1) rfl)) (d_ix (d_var 0) d_int (x_ixT (D := .int A.r) rfl)) x_add)) b_nil) (.keep (.keep (.keep (.keep (.drop .nil)))))
    · rcases stp_ok (A := A) (en := en) (M := M) ps 1 with ⟨e1, l, e2⟩ | ⟨e1, e2⟩
      · rw [e1, e2]
        exact b_cons (s_ret d_bl) rfl
      · rw [e1, e2]
        exact rfl
/-- a story's data, or not -/
def sD (ws : List Int) (ps : List (Int × Int)) : PyData := .tuple [.tuple (ws.map PyData.int), psD ps]
def okStory (A : Alm) (ws : List Int) (ps : List (Int × Int)) : Bool := okWak A ws && okSt A (ws.getLastD 0) 1 ps
/-- no tuple of two -/
def notTwo : PyData → Bool
  | .tuple xs => decide (xs.length ≠ 2)
  | _ => true
inductive StD (A : Alm) : PyData → Bool → Prop
  | non : StD A .none false
  | lst {xs : List PyData} : StD A (.list xs) false
  | tup {xs : List PyData} (h : xs.length ≤ 1) : StD A (.tuple xs) false
  | two {ws : List Int} {ps : List (Int × Int)} (h : ws.length ≤ 80000) (h2 : ps.length ≤ 80000) : StD A (sD ws ps) (okStory A ws ps)
def RIsStory (as : List Sl) (M : Mp) (o : Out) : Prop := ∃ (A : Alm) (D : PyData) (k : Bool), StD A D k ∧ as = [.dat (aD A), .dat D] ∧ o = .rt (Bo k) M
theorem sc_is_story : FnScope ["almanac", "value"] ["almanac", "value"] (defScope s_is_story) := ⟨rfl, rfl, rfl, by decide +kernel, rfl, by decide +kernel, by decide +kernel⟩
theorem last_ints {ws : List Int} (h : 1 ≤ ws.length) : atI (ws.map PyData.int) (-1) = some (.int (ws.getLastD 0)) := by
  rw [atI_neg, List.getLast?_map, List.getLastD_eq_getLast?]
  cases q : ws.getLast? with
  | none =>
    rw [List.getLast?_eq_none_iff] at q
    rw [q] at h
    cases h
  | some x => rfl
theorem df_is_story {P : Program} {w : World} {c : Cg} {mg : Str → Option Value} {base : Heap} (T : Tq c mg base) : Df P w c mg base "is_story" 3 0 RIsStory :=
  df_mk T.d_is_story sc_is_story (fun as M o ⟨_, _, _, _, h, _⟩ => by rw [h]; rfl) fun as M o hR f cdv A outer s H E hr => by
    obtain ⟨A, D, k, hD, rfl, rfl⟩ := hR
    refine ⟨_, ?_, .inl rfl⟩
    cases hD with
    | non =>
      exact b_hit (et_cast (t_w (w_or (k' := false) (t_not (t_val (d_blt (ds_cons (d_var 1) (ds_cons (d_ty (T := "tuple") T.b_tuple) ds_nil)) (y_isi "NoneType" false) T.b_isinstance))) (fun h => by cases h))) rfl) (b_cons (s_ret d_bl) rfl) (fun _ _ => nofun)
    | lst =>
      exact b_hit (et_cast (t_w (w_or (k' := false) (t_not (t_val (d_blt (ds_cons (d_var 1) (ds_cons (d_ty (T := "tuple") T.b_tuple) ds_nil)) (y_isi "list" false) T.b_isinstance))) (fun h => by cases h))) rfl) (b_cons (s_ret d_bl) rfl) (fun _ _ => nofun)
    | @tup xs h =>
      have ne : (!decide (((lenD (.tuple xs) : Nat) : Int) = 2)) = true := by
        rw [Bool.not_eq_true', decide_eq_false_iff_not]
        show ¬ ((xs.length : Nat) : Int) = 2
        omega
      refine b_hit (et_cast (t_w (w_or (t_not (t_val (d_blt (ds_cons (d_var 1) (ds_cons (d_ty (T := "tuple") T.b_tuple) ds_nil)) (y_isi "tuple" true) T.b_isinstance))) (fun _ => (w_or (k' := false) (t_cmp (d_blt (ds_cons (d_var 1) ds_nil) (y_len (D := .tuple xs) (by show xs.length ≤ _; omega)) T.b_len) d_int x_neI) (fun h => by rw [ne] at h; cases h))))) (by rw [ne]; rfl)) (b_cons (s_ret d_bl) rfl) (fun _ _ => nofun)
    | @two ws ps hw hp =>
      refine b_guard (t_w (w_or (t_not (t_val (d_blt (ds_cons (d_var 1) (ds_cons (d_ty (T := "tuple") T.b_tuple) ds_nil)) (y_isi "tuple" true) T.b_isinstance))) (fun h => (w_or (t_cmp (d_blt (ds_cons (d_var 1) ds_nil) (y_len (D := sD ws ps) (Nat.le_of_ble_eq_true rfl)) T.b_len) d_int x_neI) (fun h => (w_or1 (t_not (t_val (d_call (df_are_wakings T) hr (ds_cons (d_var 0) (ds_cons (d_ix (d_var 1) d_int (x_ixT (D := .tuple (ws.map PyData.int)) rfl)) ds_nil)) ⟨A, ws, hw, rfl, rfl⟩)))))))))
        (fun k => ?_) (fun _ _ _ => nofun) (fun k => ?_)
      · have k : okWak A ws = false := (Bool.not_eq_true' _).mp k
        refine b_cast (b_cons (s_ret d_bl) rfl) ?_
        unfold okStory
        rw [k]
        rfl
      · have k : okWak A ws = true := (Bool.not_eq_false' _).mp k
        have l1 : 1 ≤ ws.length := by
          unfold okWak at k
          exact of_decide_eq_true (Bool.and_eq_true_iff.mp k).1
        refine b_cast (b_cons (s_ret (d_call (df_are_sets T) hr (ds_cons (d_var 0) (ds_cons (d_ix (d_var 1) d_int (x_ixT (D := psD ps) rfl)) (ds_cons (d_ix (d_ix (d_var 1) d_int (x_ixT (D := .tuple (ws.map PyData.int)) rfl)) (d_neg d_int) (x_ixT (last_ints l1))) ds_nil))) ⟨A, ps, ws.getLastD 0, hp, rfl, rfl⟩)) rfl) ?_
        unfold okStory
        rw [k]
        rfl
end Zd
end
/-! ## P2 -/
section
set_option Elab.async false
set_option linter.all false
set_option maxRecDepth 100000
set_option maxHeartbeats 4000000
/-! Plain laws: a text's lines. -/
namespace Zd
open PySem PySem.Spec PyProof.Rows L2
def nls (t : Str) : List Str := Txt.split t "\n"
theorem nl10 : ("\n" : Str).cps.toList = [10] := by decide +kernel
theorem nl_map (t : Str) : (nls t).map TL.tl = sp1 10 [] t.cps.toList := split_sp1 nl10 (by decide +kernel)
theorem nls_len (t : Str) : (nls t).length = t.cps.toList.count 10 + 1 := split_len nl10 (by decide +kernel)
theorem nls_le (t : Str) : 1 ≤ (nls t).length ∧ (nls t).length ≤ t.length + 1 := by
  rw [nls_len]
  have := List.count_le_length (a := 10) (l := t.cps.toList)
  rw [tl_len] at this
  omega
theorem nls_mem {t p : Str} (h : p ∈ nls t) : p.length ≤ t.length := split_mem nl10 (by decide +kernel) h
/-- what a text's lines are; or where it is no text -/
def linesOf : PyData → Sum Int (List Str)
  | .str t => if t.length = 0 then .inl 0 else if (nls t).getLastD "" = ("" : Str) then .inr (nls t).dropLast else .inl (((nls t).length : Int) - 1)
  | _ => .inl 0
theorem cnt_list (ch : Nat) : ∀ l : List Nat, PyProof.Rows.cnt ch l = ((l.count ch : Nat) : Int)
  | [] => rfl
  | a :: l => by
    rw [PyProof.Rows.cnt_cons, cnt_list ch l]
    by_cases h : a = ch
    · rw [if_pos h, h, List.count_cons_self]
      omega
    · rw [if_neg h, List.count_cons_of_ne h]
      omega
theorem count_nl (t : Str) : Txt.count t "\n" = ((nls t).length : Int) - 1 := by
  rw [nls_len, show ("\n" : Str) = ⟨#[10]⟩ from TL.ext_tl nl10, PyProof.Rows.count_cnt, cnt_list]
  omega
theorem lastD_nil {ps : List Str} (h : ps ≠ []) : ps.getLastD "" = ("" : Str) ↔ (ps.map TL.tl).getLast? = some [] := by
  rw [List.getLastD_eq_getLast?, List.getLast?_map]
  cases q : ps.getLast? with
  | none => exact absurd (List.getLast?_eq_none_iff.mp q) h
  | some p =>
    constructor
    · intro e
      have e : p = ("" : Str) := e
      rw [e]
      rfl
    · intro e
      have e : TL.tl p = [] := Option.some.inj e
      exact TL.ext_tl e
theorem nls_ne (t : Str) : nls t ≠ [] := fun z => by
  have := (nls_le t).1
  rw [z] at this
  cases this
theorem last_nl {t : Str} (h : t.length ≠ 0) : (nls t).getLastD "" = ("" : Str) ↔ t.cps.toList.getLast? = some 10 := by
  have ne : t.cps.toList ≠ [] := fun z => h (by rw [← tl_len, z]; rfl)
  rw [lastD_nil (nls_ne t), nl_map]
  constructor
  · intro e
    apply Classical.byContradiction
    intro z
    exact sp1_last 10 _ [] z (.inr ne) e
  · intro e
    have : t.cps.toList = t.cps.toList.dropLast ++ [10] := by
      have := List.dropLast_concat_getLast ne
      rw [List.getLast?_eq_some_getLast ne] at e
      rw [Option.some.inj e] at this
      exact this.symm
    rw [this, sp1_end]
    simp
theorem cut_nl {t : Str} (e : t.cps.toList.getLast? = some 10) : nls (cutS t none (some (-1))) = (nls t).dropLast := by
  refine TL.map_tl_inj ?_
  rw [nl_map, cutS_neg, List.map_dropLast, nl_map]
  have ne : t.cps.toList ≠ [] := fun z => by rw [z] at e; cases e
  have : t.cps.toList = t.cps.toList.dropLast ++ [10] := by
    have := List.dropLast_concat_getLast ne
    rw [List.getLast?_eq_some_getLast ne] at e
    rw [Option.some.inj e] at this
    exact this.symm
  conv => rhs; rw [this, sp1_end, List.dropLast_concat]
end Zd
end
/-! ## T9 -/
section
set_option Elab.async false
set_option linter.all false
set_option maxRecDepth 100000
set_option maxHeartbeats 4000000
/-! lines_of, need_line, read_almanac. -/
namespace Zd
open PySem PySem.Spec PyProof.Rows L2
/-- what may be handed to a reader -/
inductive TxD : PyData → Prop
  | str {t : Str} (h : t.length ≤ 70000) : TxD (.str t)
  | non : TxD .none
  | int {i : Int} : TxD (.int i)
def outL (M : Mp) : Sum Int (List Str) → Out
  | .inl n => .ex (.text n) M
  | .inr ls => .rt (.dat (.list (ls.map PyData.str))) M
def RLinesOf (as : List Sl) (M : Mp) (o : Out) : Prop := ∃ D, TxD D ∧ as = [.dat D] ∧ o = outL M (linesOf D)
theorem sc_lines_of : FnScope ["text"] ["text"] (defScope s_lines_of) := ⟨rfl, rfl, rfl, by decide +kernel, rfl, by decide +kernel, by decide +kernel⟩
theorem trS0 {t : Str} : trD (.str t) = !decide (t.length = 0) := by
  show ((t.length : Int) != 0) = _
  by_cases h : t.length = 0
  · rw [h]
    rfl
  · rw [decide_eq_false h]
    exact bne_iff_ne.mpr (by omega)
theorem df_lines_of {P : Program} {w : World} {c : Cg} {mg : Str → Option Value} {base : Heap} (T : Tq c mg base) : Df P w c mg base "lines_of" 2 0 RLinesOf :=
  df_mk T.d_lines_of sc_lines_of (fun as M o ⟨_, _, h, _⟩ => by rw [h]; rfl) fun as M o hR f cdv A outer s H E hr => by
    obtain ⟨D, hD, rfl, rfl⟩ := hR
    obtain ⟨fI, xT⟩ := T.xT
    refine ⟨_, ?_, .inl rfl⟩
    cases hD with
    | non => exact b_hit (et_cast (t_w (w_or (k' := false) (t_not (t_val (d_blt (ds_cons (d_var 0) (ds_cons (d_ty (T := "str") T.b_str) ds_nil)) (y_isi "NoneType" false) T.b_isinstance))) (fun h => by cases h))) rfl) (b_cons (s_raiseT rfl xT hr (takes_of rfl rfl rfl rfl) d_int) rfl) (fun _ _ => nofun)
    | int => exact b_hit (et_cast (t_w (w_or (k' := false) (t_not (t_val (d_blt (ds_cons (d_var 0) (ds_cons (d_ty (T := "str") T.b_str) ds_nil)) (y_isi "int" false) T.b_isinstance))) (fun h => by cases h))) rfl) (b_cons (s_raiseT rfl xT hr (takes_of rfl rfl rfl rfl) d_int) rfl) (fun _ _ => nofun)
    | @str t ht =>
      refine b_guard (t_w (w_or (t_not (t_val (d_blt (ds_cons (d_var 0) (ds_cons (d_ty (T := "str") T.b_str) ds_nil)) (y_isi "str" true) T.b_isinstance))) (fun h => (w_or1 (t_not (t_truth (d_var 0) (hl := sz_ok (by show t.length ≤ _; omega)))))))) (fun k => ?_) (fun _ => ?_) (fun k => ?_)
      · rw [trS0, Bool.not_not] at k
        have k : t.length = 0 := of_decide_eq_true k
        refine b_cast (b_cons (s_raiseT rfl xT hr (takes_of rfl rfl rfl rfl) d_int) rfl) ?_
        show _ = outL M (if t.length = 0 then _ else _)
        rw [if_pos k]
        rfl
      · show ∀ ds' M', outL M (linesOf (.str t)) ≠ _
        cases linesOf (.str t) <;> exact fun _ _ => nofun
      · rw [trS0, Bool.not_not] at k
        have k : t.length ≠ 0 := of_decide_eq_false k
        have ne : t.cps.toList ≠ [] := fun z => k (by rw [← tl_len, z]; rfl)
        have el : atI t.cps.toList (-1) = some (t.cps.toList.getLast ne) := by rw [atI_neg]; exact List.getLast?_eq_some_getLast ne
        have iff : ((nls t).getLastD "" = ("" : Str)) ↔ (⟨#[t.cps.toList.getLast ne]⟩ : Str) = ("\n" : Str) := by
          rw [last_nl k, List.getLast?_eq_some_getLast ne]
          constructor
          · intro e
            rw [Option.some.inj e]
            rfl
          · intro e
            have : (⟨#[t.cps.toList.getLast ne]⟩ : Str).cps.toList = ("\n" : Str).cps.toList := by rw [e]
            rw [nl10] at this
            have : [t.cps.toList.getLast ne] = [10] := this
            rw [(List.cons.inj this).1]
        refine b_guard (t_cmp (d_ix (d_var 0) (d_neg d_int) (x_ixS el (by omega))) d_str x_neS) (fun k2 => ?_) (fun _ => ?_) (fun k2 => ?_)
        · have k2 := of_decide_eq_false ((Bool.not_eq_true' _).mp k2)
          refine b_cast (b_cons (s_raiseT rfl xT hr (takes_of rfl rfl rfl rfl) (d_count (d_var 0) d_str)) rfl) ?_
          show _ = outL M (if t.length = 0 then _ else _)
          rw [if_neg k, if_neg (fun z => k2 (iff.mp z)), count_nl]
          rfl
        · show ∀ ds' M', outL M (linesOf (.str t)) ≠ _
          cases linesOf (.str t) <;> exact fun _ _ => nofun
        · have k2 := of_decide_eq_true ((Bool.not_eq_false' _).mp k2)
          refine b_cast (b_cons (s_ret (d_split (d_sl (d_var 0) o_none (o_some (d_neg d_int)) (sx_str (by omega))) d_str (by decide) (Nat.le_trans (cutS_length t none (some (-1))) (by omega)))) rfl) ?_
          show _ = outL M (if t.length = 0 then _ else _)
          have e : t.cps.toList.getLast? = some 10 := (last_nl k).mp (iff.mpr k2)
          rw [if_neg k, if_pos (iff.mpr k2), ← cut_nl e]
          rfl
def RNeedLine (as : List Sl) (M : Mp) (o : Out) : Prop := ∃ (k : Bool) (n : Int), as = [Bo k, I n] ∧ o = if k = true then .rt (.dat .none) M else .ex (.text n) M
theorem sc_need_line : FnScope ["is_right", "line"] ["is_right", "line"] (defScope s_need_line) := ⟨rfl, rfl, rfl, by decide +kernel, rfl, by decide +kernel, by decide +kernel⟩
theorem df_need_line {P : Program} {w : World} {c : Cg} {mg : Str → Option Value} {base : Heap} (T : Tq c mg base) : Df P w c mg base "need_line" 2 0 RNeedLine :=
  df_mk T.d_need_line sc_need_line (fun as M o ⟨_, _, h, _⟩ => by rw [h]; rfl) fun as M o hR f cdv A outer s H E hr => by
    obtain ⟨k, n, rfl, rfl⟩ := hR
    obtain ⟨fI, xT⟩ := T.xT
    cases k with
    | true => exact ⟨.nx [.no, .no] M, b_skip (et_cast (t_not (t_truth (d_var 0) (hl := Nat.zero_le _))) rfl) (b_weak b_nil), .inr ⟨_, _, rfl, rfl⟩⟩
    | false => exact ⟨_, b_hit (et_cast (t_not (t_truth (d_var 0) (hl := Nat.zero_le _))) rfl) (b_cons (s_raiseT rfl xT hr (takes_of rfl rfl rfl rfl) (d_var 1)) rfl) (fun _ _ => nofun), .inl rfl⟩
section
variable {X : Cx} {c : Cg} {E : XK} {ds : List Sl} {M : Mp} {a : Expr} {o : Out} {rest : List Stmt} {p1 p2 p3 p4 : Pos} {j : Nat} {n : Int} {k : Bool}
theorem b_need (T : Tq c X.mg X.base) (hr : Room 2 X.A) (hx : Passes (L2.CX X.prog X.w) X E) (ha : PE X a (tD c ds M (Bo k) M)) (h1 : k = false → o = .ex (.text n) M) (h2 : k = true → PSs X rest (tS c E ds M o)) (hg : Gl X "need_line" := by rfl) (hK : X.K = c.K := by rfl)
    (he : starEach [a, .Constant (.int n) j p2] X.env = (false, eval a X.env) :: starEach [.Constant (.int n) j p2] X.env := by rfl)
    (hs : swapsWith (.Call (.Name "need_line" p1) [a, .Constant (.int n) j p2] [] p3) none p4.line X.env = pure false := by rfl) :
    PSs X (.Expr (.Call (.Name "need_line" p1) [a, .Constant (.int n) j p2] [] p3) p4 :: rest) (tS c E ds M o) := by
  have F : Df X.prog X.w c X.mg X.base "need_line" 2 0 RNeedLine := df_need_line T
  cases k with
  | true => exact b_cons (s_exprX (x_call F hr hx (ds_cons ha (ds_cons d_int ds_nil) he) ⟨true, n, rfl, rfl⟩ (by decide) hg (by decide) he rfl hK) (.inl ⟨_, _, rfl, rfl⟩) hs) (h2 rfl)
  | false =>
    rw [h1 rfl]
    exact b_cons (s_exprX (x_call F hr hx (ds_cons ha (ds_cons d_int ds_nil) he) ⟨false, n, rfl, rfl⟩ (by decide) hg (by decide) he rfl hK) (.inr ⟨_, _, rfl, rfl⟩) hs) rfl
end
def pad5 (ls : List Str) : List Str := ls ++ List.replicate 5 ("" : Str)
def rH (ls : List Str) : Option Int := oneOf ((pad5 ls).getD 0 "") "day"
def rF (ls : List Str) : Option Int × Option Int := twoOf ((pad5 ls).getD 1 "") "window"
def rW (ls : List Str) : Option Int × Option Int := twoOf ((pad5 ls).getD 2 "") "woken"
def rS (ls : List Str) : Option (List Int) := setsOf ((pad5 ls).getD 3 "")
def rR (ls : List Str) : Option Int := oneOf ((pad5 ls).getD 4 "") "rest"
def c0 (ls : List Str) : Bool := isNum (rH ls) 2 12
def c1 (ls : List Str) : Bool := isNum (rF ls).1 0 ((rH ls).getD 0 - 1) && isNum (rF ls).2 ((rF ls).1.getD 0) ((rF ls).1.getD 0 + (rH ls).getD 0 - 1)
def c2 (ls : List Str) : Bool := isNum (rW ls).1 1 24 && isNum (rW ls).2 ((rW ls).1.getD 0) 24
def c3 (ls : List Str) : Bool := (rS ls).isSome && okSets ((rS ls).getD []) ((rH ls).getD 0)
def c4 (ls : List Str) : Bool := isNum (rR ls) 1 12
def c5 (ls : List Str) : Bool := decide (ls.length = 5)
/-- the reader of almanacs -/
def readL (ls : List Str) : Sum Int Alm :=
  if c0 ls = false then .inl 0 else if c1 ls = false then .inl 1 else if c2 ls = false then .inl 2 else if c3 ls = false then .inl 3 else if c4 ls = false then .inl 4 else if c5 ls = false then .inl 5 else
  .inr ⟨(rH ls).getD 0, (rF ls).1.getD 0, (rF ls).2.getD 0, (rW ls).1.getD 0, (rW ls).2.getD 0, (rS ls).getD [], (rR ls).getD 0⟩
def readA (D : PyData) : Sum Int Alm := match linesOf D with
  | .inl n => .inl n
  | .inr ls => readL ls
def outA (M : Mp) : Sum Int Alm → Out
  | .inl n => .ex (.text n) M
  | .inr A => .rt (.dat (aD A)) M
def RReadA (as : List Sl) (M : Mp) (o : Out) : Prop := ∃ D, TxD D ∧ as = [.dat D] ∧ o = outA M (readA D)
theorem sc_read_almanac : FnScope ["text", "lines", "padded", "hours", "first", "last", "soon", "late", "settings", "rest"] ["text"] (defScope s_read_almanac) := ⟨rfl, rfl, rfl, by decide +kernel, rfl, by decide +kernel, by decide +kernel⟩
theorem isNum_some {v : Option Int} {lo hi : Int} (h : isNum v lo hi = true) : v = some (v.getD 0) := by
  cases v with
  | none => cases h
  | some i => rfl
theorem outA_nx {M : Mp} {x : Sum Int Alm} : ∀ ds' M', outA M x ≠ .nx ds' M' := by cases x <;> exact fun _ _ => nofun
theorem lines_bound {D : PyData} {ls : List Str} (hD : TxD D) (h : linesOf D = .inr ls) : ls.length ≤ 70000 ∧ ∀ p ∈ ls, p.length ≤ 70000 := by
  cases hD with
  | non => cases h
  | int => cases h
  | @str t ht =>
    have h : (if t.length = 0 then .inl 0 else if (nls t).getLastD "" = ("" : Str) then .inr (nls t).dropLast else .inl (((nls t).length : Int) - 1) : Sum Int (List Str)) = .inr ls := h
    split at h
    · cases h
    · split at h
      · cases h
        have := nls_le t
        exact ⟨by rw [List.length_dropLast]; omega, fun p hp => Nat.le_trans (nls_mem ((List.dropLast_subset _) hp)) ht⟩
      · cases h
theorem pad_get {ls : List Str} (h : ∀ p ∈ ls, p.length ≤ 70000) (i : Nat) : ((pad5 ls).getD i "").length ≤ 80000 := by
  rw [List.getD_eq_getElem?_getD]
  cases q : (pad5 ls)[i]? with
  | none => exact Nat.zero_le _
  | some p =>
    have := List.mem_of_getElem? q
    unfold pad5 at this
    rcases List.mem_append.mp this with m | m
    · exact Nat.le_trans (h p m) (by decide)
    · rw [(List.mem_replicate.mp m).2]
      decide
theorem nt {k : Bool} (h : k = true) : ¬ k = false := by rw [h]; exact nofun
theorem df_read_almanac {P : Program} {w : World} {c : Cg} {mg : Str → Option Value} {base : Heap} (T : Tq c mg base) : Df P w c mg base "read_almanac" 5 0 RReadA :=
  df_mk T.d_read_almanac sc_read_almanac (fun as M o ⟨_, _, h, _⟩ => by rw [h]; rfl) fun as M o hR f cdv A outer s H E hr => by
    obtain ⟨D, hD, rfl, rfl⟩ := hR
    refine ⟨_, ?_, .inl rfl⟩
    have hx := passes_call (X := cxOf (L2.CX P w) P w c.K mg base ["text", "lines", "padded", "hours", "first", "last", "soon", "late", "settings", "rest"] "read_almanac" (defScope s_read_almanac) f cdv A outer s H E) (E := E) (takes_of rfl rfl rfl rfl) fun _ _ _ _ h => h
    unfold readA
    cases q : linesOf D with
    | inl n => exact b_cons (s_setX 1 sc_read_almanac.nd (x_call (df_lines_of T) hr hx (ds_cons (d_var 0) ds_nil) ⟨D, hD, rfl, rfl⟩) (.inr ⟨_, _, by rw [q]; rfl, rfl⟩)) (by rw [q]; exact rfl)
    | inr ls =>
      obtain ⟨bl, bm⟩ := lines_bound hD q
      have pg := pad_get bm
      have pl : (pad5 ls).length = ls.length + 5 := by unfold pad5; rw [List.length_append, List.length_replicate]
      refine b_cons (s_setX 1 sc_read_almanac.nd (x_call (df_lines_of T) hr hx (ds_cons (d_var 0) ds_nil) ⟨D, hD, rfl, rfl⟩) (.inl ⟨_, _, by rw [q]; rfl, rfl⟩)) ?_
      have e5 : ls.map PyData.str ++ (List.replicate (5 : Int).toNat [PyData.str ""]).flatten = (pad5 ls).map PyData.str := by
        unfold pad5
        rw [List.map_append]
        rfl
      refine b_cons (s_set 2 sc_read_almanac.nd (ed_cast (d_op (d_var 1) (d_op (d_lst (ds_cons d_str ds_nil)) d_int (x_repL (by decide) (by decide))) (x_catL (by rw [List.length_map]; show ls.length + 5 ≤ _; omega))) (by rw [e5]))) ?_
      show PSs _ _ (tS c E _ _ (outA M (readL ls)))
      refine b_cons (s_set 3 sc_read_almanac.nd (d_call (df_one_number T) hr (ds_cons (d_ix (d_var 2) d_int (x_str (i := 0) (by omega))) (ds_cons d_str ds_nil)) ⟨_, _, pg 0, rfl, rfl⟩)) ?_
      refine b_need (k := c0 ls) T (hr.mono (by decide)) hx (d_call (df_is_number T.toTp) hr (ds_cons (d_var 3) (ds_cons d_int (ds_cons d_int ds_nil))) ⟨rH ls, 2, 12, rfl, rfl⟩) (fun k => ?_) fun k0 => ?_
      · unfold readL
        rw [if_pos k]
        rfl
      obtain ⟨h, eh⟩ : ∃ h, rH ls = some h := ⟨_, isNum_some k0⟩
      refine b_cons (s_asg (d_call (df_two_numbers T) hr (ds_cons (d_ix (d_var 2) d_int (x_str (i := 1) (by omega))) (ds_cons d_str ds_nil)) ⟨_, _, pg 1, rfl, rfl⟩) (g_tup (gs_cons (g_name 4 sc_read_almanac.nd) (gs_cons (g_name 5 sc_read_almanac.nd) gs_nil)))) ?_
      refine b_pre (ds1 := [.dat D, .dat (.list (ls.map PyData.str)), .dat (.list ((pad5 ls).map PyData.str)), I h, .dat (oD (rF ls).1), .dat (oD (rF ls).2), .no, .no, .no, .no]) ?_ ?_
      · rw [← show Sl.dat (oD (rH ls)) = I h by rw [eh]; rfl]
        repeat (first | exact Wk.nil | apply Wk.keep | apply Wk.drop)
      refine b_need (k := c1 ls) T (hr.mono (by decide)) hx (ed_cast (d_and (k' := isNum (rF ls).2 ((rF ls).1.getD 0) ((rF ls).1.getD 0 + h - 1)) (d_call (df_is_number T.toTp) hr (ds_cons (d_var 4) (ds_cons d_int (ds_cons (d_op (d_var 3) d_int x_sub) ds_nil))) ⟨(rF ls).1, 0, h - 1, rfl, rfl⟩) (fun k => ?_)) (by unfold c1; rw [eh]; rfl)) (fun k => ?_) fun k1 => ?_
      · obtain ⟨fi, ef⟩ : ∃ h, (rF ls).1 = some h := ⟨_, isNum_some k⟩
        rw [ef]
        exact d_one (d_call (df_is_number T.toTp) hr (ds_cons (d_var 5) (ds_cons (d_var 4) (ds_cons (d_op (d_op (d_var 4) (d_var 3) x_add) d_int x_sub) ds_nil))) ⟨(rF ls).2, fi, fi + h - 1, rfl, rfl⟩)
      · unfold readL
        rw [if_neg (nt k0), if_pos k]
        rfl
      refine b_cons (s_asg (d_call (df_two_numbers T) hr (ds_cons (d_ix (d_var 2) d_int (x_str (i := 2) (by omega))) (ds_cons d_str ds_nil)) ⟨_, _, pg 2, rfl, rfl⟩) (g_tup (gs_cons (g_name 6 sc_read_almanac.nd) (gs_cons (g_name 7 sc_read_almanac.nd) gs_nil)))) ?_
      refine b_pre (ds1 := [.dat D, .dat (.list (ls.map PyData.str)), .dat (.list ((pad5 ls).map PyData.str)), I h, .dat (oD (rF ls).1), .dat (oD (rF ls).2), .dat (oD (rW ls).1), .dat (oD (rW ls).2), .no, .no]) (by repeat (first | exact Wk.nil | apply Wk.keep | apply Wk.drop)) ?_
      refine b_need (k := c2 ls) T (hr.mono (by decide)) hx (d_and (k' := isNum (rW ls).2 ((rW ls).1.getD 0) 24) (d_call (df_is_number T.toTp) hr (ds_cons (d_var 6) (ds_cons d_int (ds_cons (d_gint T.k_MOST_LATE.choose_spec) ds_nil))) ⟨(rW ls).1, 1, 24, rfl, rfl⟩) (fun k => ?_)) (fun k => ?_) fun k2 => ?_
      · obtain ⟨si, es⟩ : ∃ h, (rW ls).1 = some h := ⟨_, isNum_some k⟩
        rw [es]
        exact d_one (d_call (df_is_number T.toTp) hr (ds_cons (d_var 7) (ds_cons (d_var 6) (ds_cons (d_gint T.k_MOST_LATE.choose_spec) ds_nil))) ⟨(rW ls).2, si, 24, rfl, rfl⟩)
      · unfold readL
        rw [if_neg (nt k0), if_neg (nt k1), if_pos k]
        rfl
      refine b_cons (s_set 8 sc_read_almanac.nd (d_call (df_settings_of T) hr (ds_cons (d_ix (d_var 2) d_int (x_str (i := 3) (by omega))) ds_nil) ⟨_, pg 3, rfl, rfl⟩)) ?_
      refine b_pre (ds1 := [.dat D, .dat (.list (ls.map PyData.str)), .dat (.list ((pad5 ls).map PyData.str)), I h, .dat (oD (rF ls).1), .dat (oD (rF ls).2), .dat (oD (rW ls).1), .dat (oD (rW ls).2), .dat (oDs (rS ls)), .no]) (by repeat (first | exact Wk.nil | apply Wk.keep | apply Wk.drop)) ?_
      have nonS : (!isNon (oDs (rS ls))) = (rS ls).isSome := by cases rS ls <;> rfl
      have lenS : ((rS ls).getD []).length ≤ 90000 := by
        unfold rS setsOf
        have := wds_len ((pad5 ls).getD 3 "")
        have := pg 3
        split
        · exact Nat.zero_le _
        · split
          · show (List.map _ _).length ≤ _
            rw [List.length_map, List.length_drop]
            omega
          · exact Nat.zero_le _
      refine b_need (k := c3 ls) T (hr.mono (by decide)) hx (ed_cast (d_and (k' := okSets ((rS ls).getD []) h) (d_cmp (d_var 8) d_non x_notN) (fun k => ?_)) (by unfold c3; rw [eh, nonS]; rfl)) (fun k => ?_) fun k3 => ?_
      · rw [nonS] at k
        obtain ⟨ns, es⟩ := Option.isSome_iff_exists.mp k
        rw [es] at lenS ⊢
        exact d_one (d_call (df_are_settings T) hr (ds_cons (d_var 8) (ds_cons (d_var 3) ds_nil)) ⟨ns, h, lenS, rfl, rfl⟩)
      · unfold readL
        rw [if_neg (nt k0), if_neg (nt k1), if_neg (nt k2), if_pos k]
        rfl
      refine b_cons (s_set 9 sc_read_almanac.nd (d_call (df_one_number T) hr (ds_cons (d_ix (d_var 2) d_int (x_str (i := 4) (by omega))) (ds_cons d_str ds_nil)) ⟨_, _, pg 4, rfl, rfl⟩)) ?_
      refine b_pre (ds1 := [.dat D, .dat (.list (ls.map PyData.str)), .dat (.list ((pad5 ls).map PyData.str)), I h, .dat (oD (rF ls).1), .dat (oD (rF ls).2), .dat (oD (rW ls).1), .dat (oD (rW ls).2), .dat (oDs (rS ls)), .dat (oD (rR ls))]) (by repeat (first | exact Wk.nil | apply Wk.keep | apply Wk.drop)) ?_
      refine b_need (k := c4 ls) T (hr.mono (by decide)) hx (d_call (df_is_number T.toTp) hr (ds_cons (d_var 9) (ds_cons d_int (ds_cons (d_gint T.k_MOST_REST.choose_spec) ds_nil))) ⟨rR ls, 1, 12, rfl, rfl⟩) (fun k => ?_) fun k4 => ?_
      · unfold readL
        rw [if_neg (nt k0), if_neg (nt k1), if_neg (nt k2), if_neg (nt k3), if_pos k]
        rfl
      refine b_need (k := c5 ls) T (hr.mono (by decide)) hx (ed_cast (d_cmp (d_blt (ds_cons (d_var 1) ds_nil) (y_lenL (by omega)) T.b_len) d_int x_eqI) (by unfold c5; rw [show decide ((ls.length : Int) = 5) = decide (ls.length = 5) from dnat])) (fun k => ?_) fun k5 => ?_
      · unfold readL
        rw [if_neg (nt k0), if_neg (nt k1), if_neg (nt k2), if_neg (nt k3), if_neg (nt k4), if_pos k]
        rfl
      refine b_cast (b_cons (s_ret (d_tup (ds_cons (d_var 3) (ds_cons (d_var 4) (ds_cons (d_var 5) (ds_cons (d_var 6) (ds_cons (d_var 7) (ds_cons (d_var 8) (ds_cons (d_var 9) ds_nil))))))))) rfl) ?_
      unfold readL
      rw [if_neg (nt k0), if_neg (nt k1), if_neg (nt k2), if_neg (nt k3), if_neg (nt k4), if_neg (nt k5), eh]
      unfold c1 at k1
      unfold c2 at k2
      unfold c3 at k3
      rw [Bool.and_eq_true] at k1 k2 k3
      have e1 := isNum_some k1.1
      have e2 := isNum_some k1.2
      have e3 := isNum_some k2.1
      have e4 := isNum_some k2.2
      have e5 := isNum_some k4
      obtain ⟨ns, e6⟩ := Option.isSome_iff_exists.mp k3.1
      rw [e6]
      generalize (rF ls).1 = x1 at e1 ⊢
      generalize (rF ls).2 = x2 at e2 ⊢
      generalize (rW ls).1 = x3 at e3 ⊢
      generalize (rW ls).2 = x4 at e4 ⊢
      generalize rR ls = x5 at e5 ⊢
      rw [e1, e2, e3, e4, e5]
      rfl
end Zd
end
/-! ## P3 -/
section
set_option Elab.async false
set_option linter.all false
set_option maxRecDepth 100000
set_option maxHeartbeats 4000000
/-! Plain laws: what may be compared. -/
namespace Zd
open PySem PySem.Spec PyProof.Rows L2
/-- a text's signs are signs -/
def okS (t : Str) : Prop := ∀ ch ∈ t.cps.toList, ch < 0x110000
theorem okS_strOk {t : Str} (h : okS t) : PyData.strOk t = true := by
  unfold PyData.strOk
  rw [← Array.all_toList, List.all_eq_true]
  intro ch hc
  exact decide_eq_true (h ch hc)
theorem sp1_sub (s : Nat) : ∀ (l acc : List Nat), ∀ p ∈ sp1 s acc l, ∀ ch ∈ p, ch ∈ acc ∨ ch ∈ l
  | [], acc, p, hp, ch, hc => by
    unfold sp1 at hp
    rw [List.mem_singleton.mp hp] at hc
    exact .inl hc
  | a :: r, acc, p, hp, ch, hc => by
    unfold sp1 at hp
    by_cases h : a = s
    · rw [if_pos h] at hp
      rcases List.mem_cons.mp hp with e | e
      · rw [e] at hc
        exact .inl hc
      · rcases sp1_sub s r [] p e ch hc with z | z
        · cases z
        · exact .inr (List.mem_cons_of_mem _ z)
    · rw [if_neg h] at hp
      rcases sp1_sub s r _ p hp ch hc with z | z
      · rcases List.mem_append.mp z with z | z
        · exact .inl z
        · rw [List.mem_singleton.mp z]
          exact .inr List.mem_cons_self
      · exact .inr (List.mem_cons_of_mem _ z)
theorem okS_split {x y p : Str} {s : Nat} (hy : y.cps.toList = [s]) (hs : y.cps.all (· < 256) = true) (h : okS x) (hp : p ∈ Txt.split x y) : okS p := fun ch hc => by
  rcases sp1_sub s x.cps.toList [] p.cps.toList (by rw [← split_sp1 hy hs]; exact List.mem_map_of_mem (f := TL.tl) hp) ch hc with z | z
  · cases z
  · exact h ch z
theorem okS_wds {z p : Str} (h : okS z) (hp : p ∈ wds z) : okS p := okS_split (s := 32) (by decide +kernel) (by decide +kernel) h hp
theorem okS_nls {z p : Str} (h : okS z) (hp : p ∈ nls z) : okS p := okS_split nl10 (by decide +kernel) h hp
theorem okS_empty : okS "" := fun ch hc => by cases hc
theorem okS_getD {ps : List Str} (h : ∀ p ∈ ps, okS p) (i : Nat) : okS (ps.getD i "") := by
  rw [List.getD_eq_getElem?_getD]
  cases q : ps[i]? with
  | none => exact okS_empty
  | some p => exact h p (List.mem_of_getElem? q)
theorem okS_cut {z : Str} (h : okS z) (lo hi : Option Int) : okS (cutS z lo hi) := fun ch hc => by
  unfold cutS at hc
  exact h ch (List.mem_of_mem_drop (List.mem_of_mem_take hc))
theorem lay_all : ∀ (l : List PyData), (∀ d ∈ l, PyData.canLay0 d = true) → PyData.canLayAll0 l = true
  | [], _ => rfl
  | d :: l, h => by
    show (PyData.canLay0 d && PyData.canLayAll0 l) = true
    rw [h d List.mem_cons_self, lay_all l fun x hx => h x (List.mem_cons_of_mem _ hx)]
    rfl
theorem dep_all : ∀ (l : List PyData) (n : Nat), (∀ d ∈ l, PyData.depth d ≤ n) → PyData.depthAll l ≤ n
  | [], n, _ => Nat.zero_le _
  | d :: l, n, h => by
    show max (PyData.depth d) (PyData.depthAll l) ≤ n
    exact Nat.max_le.mpr ⟨h d List.mem_cons_self, dep_all l n fun x hx => h x (List.mem_cons_of_mem _ hx)⟩
/-- flat things, in a list or tuple -/
def layF (d : PyData) (n : Nat) : Prop := PyData.canLay0 d = true ∧ PyData.depth d ≤ n
theorem layF_list {l : List PyData} {n : Nat} (h : ∀ d ∈ l, layF d n) : layF (.list l) (n + 1) := ⟨lay_all l fun d hd => (h d hd).1, Nat.succ_le_succ (dep_all l n fun d hd => (h d hd).2)⟩
theorem layF_tup {l : List PyData} {n : Nat} (h : ∀ d ∈ l, layF d n) : layF (.tuple l) (n + 1) := ⟨lay_all l fun d hd => (h d hd).1, Nat.succ_le_succ (dep_all l n fun d hd => (h d hd).2)⟩
theorem layF_int {i : Int} {n : Nat} : layF (.int i) n := ⟨rfl, Nat.zero_le _⟩
theorem layF_str {x : Str} {n : Nat} (h : okS x) : layF (.str x) n := ⟨okS_strOk h, Nat.zero_le _⟩
theorem layF_ints {ns : List Int} {n : Nat} : ∀ d ∈ ns.map PyData.int, layF d n := fun d hd => by
  obtain ⟨i, _, rfl⟩ := List.mem_map.mp hd
  exact layF_int
theorem layF_strs {ps : List Str} {n : Nat} (h : ∀ p ∈ ps, okS p) : ∀ d ∈ ps.map PyData.str, layF d n := fun d hd => by
  obtain ⟨i, hi, rfl⟩ := List.mem_map.mp hd
  exact layF_str (h i hi)
theorem shp {d : PyData} {n : Nat} (h : layF d n) (hn : n ≤ 64 := by decide) : SeqAt.shaped d = true := by
  show (PyData.canLay0 d && decide (PyData.depth d ≤ 64)) = true
  rw [h.1, decide_eq_true (Nat.le_trans h.2 hn)]
  rfl
theorem layF_nil {n : Nat} : ∀ d ∈ ([] : List PyData), layF d n := fun d hd => by cases hd
theorem layF_pairs {ps : List (Int × Int)} : ∀ d ∈ ps.map prD, layF d 1 := fun d hd => by
  obtain ⟨p, _, rfl⟩ := List.mem_map.mp hd
  refine layF_tup (n := 0) fun d hd => ?_
  simp only [List.mem_cons, List.not_mem_nil, or_false] at hd
  rcases hd with e | e <;> rw [e] <;> exact layF_int
theorem eqv_nilL (xs : List PyData) : PyData.eqv (.list xs) (.list []) = xs.isEmpty := by cases xs <;> rfl
theorem eqv_nilT (xs : List PyData) : PyData.eqv (.tuple xs) (.tuple []) = xs.isEmpty := by cases xs <;> rfl
theorem eqvAll_ints : ∀ (xs ys : List Int), PyData.eqvAll (xs.map PyData.int) (ys.map PyData.int) = decide (xs = ys)
  | [], [] => rfl
  | [], _ :: _ => rfl
  | _ :: _, [] => rfl
  | x :: xs, y :: ys => by
    show ((x == y) && PyData.eqvAll (xs.map PyData.int) (ys.map PyData.int)) = _
    rw [eqvAll_ints xs ys, Bool.eq_iff_iff, Bool.and_eq_true, beq_iff_eq, decide_eq_true_iff, decide_eq_true_iff, List.cons.injEq]
theorem eqvAll_strs : ∀ (xs ys : List Str), PyData.eqvAll (xs.map PyData.str) (ys.map PyData.str) = decide (xs = ys)
  | [], [] => rfl
  | [], _ :: _ => rfl
  | _ :: _, [] => rfl
  | x :: xs, y :: ys => by
    show ((x == y) && PyData.eqvAll (xs.map PyData.str) (ys.map PyData.str)) = _
    rw [eqvAll_strs xs ys, Bool.eq_iff_iff, Bool.and_eq_true, beq_iff_eq, decide_eq_true_iff, decide_eq_true_iff, List.cons.injEq]
section
variable {X : Cx} {c : Cg} {k : Nat}
theorem Room.u {A : Around} (r : Room k A) : A.units + 64 < cLine := by have := r.un; omega
theorem x_eqNilL {xs : List PyData} {n : Nat} (hr : Room k X.A) (h : ∀ d ∈ xs, layF d n) (hn : n ≤ 63 := by decide) (hK : X.K = c.K := by rfl) : OpX c X (compareOp .Eq) (.dat (.list xs)) (.dat (.list [])) (Bo xs.isEmpty) := x_eqD (Room.u hr) (shp (layF_list h) (by omega)) rfl (eqv_nilL xs) hK
theorem x_neNilL {xs : List PyData} {n : Nat} (hr : Room k X.A) (h : ∀ d ∈ xs, layF d n) (hn : n ≤ 63 := by decide) (hK : X.K = c.K := by rfl) : OpX c X (compareOp .NotEq) (.dat (.list xs)) (.dat (.list [])) (Bo (!xs.isEmpty)) := x_neD (Room.u hr) (shp (layF_list h) (by omega)) rfl (by rw [eqv_nilL]) hK
theorem x_eqNilT {xs : List PyData} {n : Nat} (hr : Room k X.A) (h : ∀ d ∈ xs, layF d n) (hn : n ≤ 63 := by decide) (hK : X.K = c.K := by rfl) : OpX c X (compareOp .Eq) (.dat (.tuple xs)) (.dat (.tuple [])) (Bo xs.isEmpty) := x_eqD (Room.u hr) (shp (layF_tup h) (by omega)) rfl (eqv_nilT xs) hK
theorem x_neNilT {xs : List PyData} {n : Nat} (hr : Room k X.A) (h : ∀ d ∈ xs, layF d n) (hn : n ≤ 63 := by decide) (hK : X.K = c.K := by rfl) : OpX c X (compareOp .NotEq) (.dat (.tuple xs)) (.dat (.tuple [])) (Bo (!xs.isEmpty)) := x_neD (Room.u hr) (shp (layF_tup h) (by omega)) rfl (by rw [eqv_nilT]) hK
theorem x_neIntsL {xs ys : List Int} (hr : Room k X.A) (hK : X.K = c.K := by rfl) : OpX c X (compareOp .NotEq) (.dat (.list (xs.map PyData.int))) (.dat (.list (ys.map PyData.int))) (Bo (!decide (xs = ys))) := x_neD (Room.u hr) (shp (layF_list (n := 0) layF_ints)) (shp (layF_list (n := 0) layF_ints)) (by show (!PyData.eqvAll _ _) = _; rw [eqvAll_ints]) hK
theorem x_eqStrsL {xs ys : List Str} (hr : Room k X.A) (h1 : ∀ p ∈ xs, okS p) (h2 : ∀ p ∈ ys, okS p) (hK : X.K = c.K := by rfl) : OpX c X (compareOp .Eq) (.dat (.list (xs.map PyData.str))) (.dat (.list (ys.map PyData.str))) (Bo (decide (xs = ys))) := x_eqD (Room.u hr) (shp (layF_list (n := 0) (layF_strs h1))) (shp (layF_list (n := 0) (layF_strs h2))) (eqvAll_strs xs ys) hK
end
end Zd
end
/-! ## T10 -/
section
set_option Elab.async false
set_option linter.all false
set_option maxRecDepth 100000
set_option maxHeartbeats 4000000
/-! The law's own words and lines. -/
namespace Zd
open PySem PySem.Spec PyProof.Rows L2
def RLawNumber (as : List Sl) (M : Mp) (o : Out) : Prop := ∃ z : Str, z.length ≤ 90000 ∧ okS z ∧ as = [S z] ∧ o = .rt (.dat (oD (numOf z))) M
theorem sc_law_number : FnScope ["_law_word", "_law_sign"] ["_law_word"] (defScope s_law_number) := ⟨rfl, rfl, rfl, by decide +kernel, rfl, by decide +kernel, by decide +kernel⟩
theorem filt_empty {α β : Type} (l : List α) (p : α → Bool) (f : α → β) : ((l.filter fun a => !p a).map f).isEmpty = l.all p := by
  rw [isE_map]
  induction l with
  | nil => rfl
  | cons a l ih =>
    rw [List.all_cons, ← ih]
    cases h : p a with
    | true => rw [List.filter_cons_of_neg (by rw [h]; exact nofun)]; rfl
    | false => rw [List.filter_cons_of_pos (by rw [h]; rfl)]; rfl
theorem df_law_number {P : Program} {w : World} {c : Cg} {mg : Str → Option Value} {base : Heap} (T : Tq c mg base) : Df P w c mg base "_law_number" 1 0 RLawNumber :=
  df_mk T.d_law_number sc_law_number (fun as M o ⟨_, _, _, h, _⟩ => by rw [h]; rfl) fun as M o hR f cdv A outer s H E hr => by
    obtain ⟨z, hz, ok, rfl, rfl⟩ := hR
    refine ⟨_, ?_, .inl rfl⟩
    have zl : z.cps.toList.length = z.length := tl_len z
    refine b_guard (k := !(decide ((1 : Int) ≤ (z.length : Nat)) && decide (((z.length : Nat) : Int) ≤ 4)) || ((!digs z) || (decide ((1 : Int) < (z.length : Nat)) && decide (z.cps.toList.head? = some 48))))
      (t_w (w_or (t_not (t_chain d_int (d_blt (ds_cons (d_var 0) ds_nil) (y_len (D := .str z) (by show z.length ≤ _; omega)) T.b_len) d_int x_le x_le)) (fun h0 => (w_or (et_cast (t_cmp (d_lc (as := z.cps.toList) (g := fun ch => .str ⟨#[ch]⟩) (own := [("_law_sign", 1)]) (fun ch => !decide (ch ∈ ("0123456789" : Str).cps.toList)) (fun ch => .str ⟨#[ch]⟩) (fun p => _) [1] (by rfl) (by rfl) sc_law_number.nd (blkOk_cx (by decide +kernel)) (i_str (d_var 0)) (by decide) (by rw [zl]; omega) (fun a ha s H C cl fp => (g_name 1 sc_law_number.nd)) (fun a ha s H C cl fp => (ts_one (t_cmp (d_var 1) d_str x_niS))) (fun a ha hp s H C cl fp => (d_var 1))) (d_lst ds_nil) (x_neNilL (n := 0) hr (fun d hd => by
        obtain ⟨ch, hc, rfl⟩ := List.mem_map.mp hd
        exact layF_str (fun c2 h2 => by rw [List.mem_singleton.mp (show c2 ∈ [ch] from h2)]; exact ok ch (List.mem_filter.mp hc).1)))) (by rw [filt_empty]; rfl)) (fun _ => (w_or1 (t_w (w_and (t_cmp (d_blt (ds_cons (d_var 0) ds_nil) (y_len (D := .str z) (by show z.length ≤ _; omega)) T.b_len) d_int x_gt) (fun h => ?_)))))))))
      (fun k => ?_) (fun _ _ _ => nofun) (fun k => ?_)
    · have hl := of_decide_eq_true h
      have hl : (1 : Int) < ((z.length : Nat) : Int) := hl
      cases q : z.cps.toList with
      | nil => rw [q] at zl; simp at zl; omega
      | cons ch r =>
        refine w_and1 (et_cast (t_cmp (d_ix (d_var 0) d_int (x_ixS (ch := ch) (by rw [q]; exact atI_0 _ _) (by omega))) d_str x_eqS) ?_)
        rw [decide_eq_decide]
        constructor
        · intro e
          have : (⟨#[ch]⟩ : Str).cps.toList = ("0" : Str).cps.toList := by rw [e]
          have : [ch] = [48] := this
          rw [(List.cons.inj this).1]
          rfl
        · intro e
          cases e
          rfl
    · refine b_cast (b_cons (s_ret d_non) rfl) ?_
      have e : numOf z = none := by
        unfold numOf
        refine if_neg fun q => ?_
        rw [Bool.and_eq_true, Bool.and_eq_true, Bool.and_eq_true] at q
        obtain ⟨⟨⟨q1, q2⟩, q3⟩, q4⟩ := q
        have q1 := of_decide_eq_true q1
        have q2 := of_decide_eq_true q2
        rw [decide_eq_true (show (1 : Int) ≤ ((z.length : Nat) : Int) by omega), decide_eq_true (show ((z.length : Nat) : Int) ≤ 4 by omega), q3] at k
        have k : (decide ((1 : Int) < (z.length : Nat)) && decide (z.cps.toList.head? = some 48)) = true := k
        rw [Bool.and_eq_true] at k
        have k1 := of_decide_eq_true k.1
        rw [decide_eq_true (show 1 < z.length by omega), of_decide_eq_true k.2] at q4
        cases q4
      rw [e]
      rfl
    · rw [Bool.or_eq_false_iff, Bool.or_eq_false_iff, Bool.not_eq_false', Bool.not_eq_false', Bool.and_eq_true, decide_eq_true_iff, decide_eq_true_iff] at k
      obtain ⟨⟨k1, k2⟩, k3, k4⟩ := k
      have h1 : 1 ≤ z.length := by omega
      have h4 : z.length ≤ 4 := by omega
      refine b_cast (b_cons (s_ret (d_typ (ds_cons (d_var 0) ds_nil) (y_intS (intText_dval h1 h4 k3) (by omega)) T.b_int)) rfl) ?_
      have e : numOf z = some ((NumText.digitsVal z.cps.toList : Nat) : Int) := by
        unfold numOf
        refine if_pos ?_
        rw [decide_eq_true h1, decide_eq_true h4, k3]
        have : (decide (1 < z.length) && z.cps.toList.head? == some 48) = (decide ((1 : Int) < (z.length : Nat)) && decide (z.cps.toList.head? = some 48)) := by
          rw [show decide (1 < z.length) = decide ((1 : Int) < (z.length : Nat)) from decide_eq_decide.mpr (by omega)]
          congr 1
          exact Bool.eq_iff_iff.mpr (by rw [beq_iff_eq, decide_eq_true_iff])
        rw [this, k4]
        rfl
      rw [e]
      rfl
def RLawSetting (as : List Sl) (M : Mp) (o : Out) : Prop := ∃ z : Str, z.length ≤ 90000 ∧ okS z ∧ as = [S z] ∧ o = .rt (.dat (oD (setOf z))) M
theorem sc_law_setting : FnScope ["_law_word", "_law_number_here"] ["_law_word"] (defScope s_law_setting) := ⟨rfl, rfl, rfl, by decide +kernel, rfl, by decide +kernel, by decide +kernel⟩
theorem df_law_setting {P : Program} {w : World} {c : Cg} {mg : Str → Option Value} {base : Heap} (T : Tq c mg base) : Df P w c mg base "_law_setting" 2 0 RLawSetting :=
  df_mk T.d_law_setting sc_law_setting (fun as M o ⟨_, _, _, h, _⟩ => by rw [h]; rfl) fun as M o hR f cdv A outer s H E hr => by
    obtain ⟨z, hz, ok, rfl, rfl⟩ := hR
    refine ⟨_, ?_, .inl rfl⟩
    have hc := cutS_length z (some 1) none
    refine b_cons (s_set 1 sc_law_setting.nd (d_if (d := .dat (oD (if pm z = true then numOf (cutS z (some 1) none) else none))) (t_cmp (d_sl (d_var 0) o_none (o_some d_int) (sx_str (by omega))) (d_lst (ds_cons d_str (ds_cons d_str ds_nil))) x_inL)
      (fun h => ed_cast (d_call (df_law_number T) hr (ds_cons (d_sl (d_var 0) (o_some d_int) o_none (sx_str (by omega))) ds_nil) ⟨_, Nat.le_trans hc (by omega), okS_cut ok _ _, rfl, rfl⟩) (by rw [pm_in] at h; rw [if_pos h])) (fun h => ed_cast d_non (by rw [pm_in] at h; rw [if_neg (by rw [h]; exact nofun)]; rfl)))) ?_
    rw [setOf_pm]
    cases q : pm z with
    | false =>
      exact b_cons (s_ret (d_if (t_cmp (d_var 1) d_non x_isN) (fun h => d_non) (fun h => by cases h))) rfl
    | true =>
      obtain ⟨ch, e1, e2⟩ := pm_cons q
      cases q2 : numOf (cutS z (some 1) none) with
      | none => exact b_cons (s_ret (d_if (t_cmp (d_var 1) d_non x_isN) (fun h => d_non) (fun h => by cases h))) rfl
      | some n =>
        refine b_cons (s_ret (d_if (t_cmp (d_var 1) d_non x_isN) (fun h => by cases h) (fun h => (d_if (t_cmp (d_ix (d_var 0) d_int (x_ixS e1 (by omega))) d_str x_eqS) (fun h => ed_cast (d_var 1) ?_) (fun h => ed_cast (d_op d_int (d_var 1) x_sub) ?_))))) rfl
        · rw [e2] at h
          rw [if_pos rfl, Option.map_some, if_pos (of_decide_eq_true h)]
          rfl
        · rw [e2] at h
          rw [if_pos rfl, Option.map_some, if_neg (of_decide_eq_false h)]
          rfl
def RLawIn (as : List Sl) (M : Mp) (o : Out) : Prop := ∃ (v : Option Int) (lo hi : Int), as = [.dat (oD v), I lo, I hi] ∧ o = .rt (Bo (isNum v lo hi)) M
theorem sc_law_in : FnScope ["_law_value", "_law_low", "_law_high"] ["_law_value", "_law_low", "_law_high"] (defScope s_law_in) := ⟨rfl, rfl, rfl, by decide +kernel, rfl, by decide +kernel, by decide +kernel⟩
theorem df_law_in {P : Program} {w : World} {c : Cg} {mg : Str → Option Value} {base : Heap} (T : Tq c mg base) : Df P w c mg base "_law_in" 1 0 RLawIn :=
  df_mk T.d_law_in sc_law_in (fun as M o ⟨_, _, _, h, _⟩ => by rw [h]; rfl) fun as M o hR f cdv A outer s H E hr => by
    obtain ⟨v, lo, hi, rfl, rfl⟩ := hR
    refine ⟨_, ?_, .inl rfl⟩
    cases v with
    | none => exact b_cons (s_ret (ed_cast (d1 := Bo (isNum none lo hi)) (d_and (k' := true) (d_cmp (d_var 0) d_non (x_notN (D := .none))) (fun h => by cases h)) rfl)) rfl
    | some i => exact b_cons (s_ret (ed_cast (d1 := Bo (isNum (some i) lo hi)) (d_and (d_cmp (d_var 0) d_non (x_notN (D := .int i))) (fun h => (d_one (d_chain (d_var 1) (d_var 0) (d_var 2) (x_le (i := lo) (j := i)) (x_le (i := i) (j := hi)))))) rfl)) rfl
def RLawOne (as : List Sl) (M : Mp) (o : Out) : Prop := ∃ line word : Str, line.length ≤ 80000 ∧ okS line ∧ as = [S line, S word] ∧ o = .rt (.dat (oD (oneOf line word))) M
theorem sc_law_one : FnScope ["_law_line", "_law_word", "_law_parts"] ["_law_line", "_law_word"] (defScope s_law_one) := ⟨rfl, rfl, rfl, by decide +kernel, rfl, by decide +kernel, by decide +kernel⟩
theorem okS_wget {z : Str} (h : okS z) (i : Nat) : okS ((wds z).getD i "") := okS_getD (fun p hp => okS_wds h hp) i
theorem df_law_one {P : Program} {w : World} {c : Cg} {mg : Str → Option Value} {base : Heap} (T : Tq c mg base) : Df P w c mg base "_law_one" 2 0 RLawOne :=
  df_mk T.d_law_one sc_law_one (fun as M o ⟨_, _, _, _, h, _⟩ => by rw [h]; rfl) fun as M o hR f cdv A outer s H E hr => by
    obtain ⟨line, word, hz, ok, rfl, rfl⟩ := hR
    refine ⟨_, ?_, .inl rfl⟩
    have hl := wds_len line
    refine b_cons (s_set 2 sc_law_one.nd (d_wds (d_var 0) d_str (by omega))) ?_
    refine b_cons (s_ret (d_if (t_w (w_and (t_cmp (d_blt (ds_cons (d_var 2) ds_nil) (y_lenL (by omega)) T.b_len) d_int x_eqI) (fun h => (w_and1 (t_cmp (d_ix (d_var 2) d_int (x_str (i := 0) (by have := of_decide_eq_true h; omega))) (d_var 1) x_eqS)))))
      (fun h => ed_cast (d_call (df_law_number T) hr (ds_cons (d_ix (d_var 2) d_int (x_str (i := 1) ?_)) ds_nil) ⟨_, Nat.le_trans (wds_get line 1) (by omega), okS_wget ok 1, rfl, rfl⟩) ?_) (fun h => ed_cast d_non ?_))) rfl
    · rw [Bool.and_eq_true] at h
      have := of_decide_eq_true h.1
      omega
    · rw [show decide (((wds line).length : Int) = 2) = decide ((wds line).length = 2) from dnat] at h
      unfold oneOf
      rw [if_pos h]
    · rw [show decide (((wds line).length : Int) = 2) = decide ((wds line).length = 2) from dnat] at h
      unfold oneOf
      rw [if_neg (by rw [h]; exact Bool.false_ne_true)]
      rfl
def RLawTwo (as : List Sl) (M : Mp) (o : Out) : Prop := ∃ line word : Str, line.length ≤ 80000 ∧ okS line ∧ as = [S line, S word] ∧ o = .rt (.dat (o2D (twoOf line word))) M
theorem sc_law_two : FnScope ["_law_line", "_law_word", "_law_parts", "_law_good"] ["_law_line", "_law_word"] (defScope s_law_two) := ⟨rfl, rfl, rfl, by decide +kernel, rfl, by decide +kernel, by decide +kernel⟩
theorem df_law_two {P : Program} {w : World} {c : Cg} {mg : Str → Option Value} {base : Heap} (T : Tq c mg base) : Df P w c mg base "_law_two" 2 0 RLawTwo :=
  df_mk T.d_law_two sc_law_two (fun as M o ⟨_, _, _, _, h, _⟩ => by rw [h]; rfl) fun as M o hR f cdv A outer s H E hr => by
    obtain ⟨line, word, hz, ok, rfl, rfl⟩ := hR
    refine ⟨_, ?_, .inl rfl⟩
    have hl := wds_len line
    refine b_cons (s_set 2 sc_law_two.nd (d_wds (d_var 0) d_str (by omega))) ?_
    refine b_cons (s_set 3 sc_law_two.nd (d_and (d_cmp (d_blt (ds_cons (d_var 2) ds_nil) (y_lenL (by omega)) T.b_len) d_int x_eqI) (fun h => (d_and (d_cmp (d_ix (d_var 2) d_int (x_str (i := 0) (by have := of_decide_eq_true h; omega))) (d_var 1) x_eqS) (fun _ => (d_one (d_cmp (d_ix (d_var 2) d_int (x_str (i := 2) (by have := of_decide_eq_true h; omega))) d_str x_eqS))))))) ?_
    refine b_cons (s_ret (d_if (t_truth (d_var 3) (hl := Nat.zero_le _)) (fun h => ed_cast (d_tup (ds_cons (d_call (df_law_number T) hr (ds_cons (d_ix (d_var 2) d_int (x_str (i := 1) ?_)) ds_nil) ⟨_, Nat.le_trans (wds_get line 1) (by omega), okS_wget ok 1, rfl, rfl⟩) (ds_cons (d_call (df_law_number T) hr (ds_cons (d_ix (d_var 2) d_int (x_str (i := 3) ?_)) ds_nil) ⟨_, Nat.le_trans (wds_get line 3) (by omega), okS_wget ok 3, rfl, rfl⟩) ds_nil))) ?_) (fun h => ed_cast (d_tup (ds_cons d_non (ds_cons d_non ds_nil))) ?_))) rfl
    · have h : (_ && (_ && _)) = true := h
      rw [Bool.and_eq_true] at h
      have := of_decide_eq_true h.1
      omega
    · have h : (_ && (_ && _)) = true := h
      rw [Bool.and_eq_true] at h
      have := of_decide_eq_true h.1
      omega
    · have h : (decide (((wds line).length : Int) = 4) && (decide ((wds line).getD 0 "" = word) && decide ((wds line).getD 2 "" = ("to" : Str)))) = true := h
      rw [show decide (((wds line).length : Int) = 4) = decide ((wds line).length = 4) from dnat] at h
      unfold twoOf
      rw [if_pos h]
      rfl
    · have h : (decide (((wds line).length : Int) = 4) && (decide ((wds line).getD 0 "" = word) && decide ((wds line).getD 2 "" = ("to" : Str)))) = false := h
      rw [show decide (((wds line).length : Int) = 4) = decide ((wds line).length = 4) from dnat] at h
      unfold twoOf
      rw [if_neg (by rw [h]; exact Bool.false_ne_true)]
      rfl
end Zd
end
/-! ## T11 -/
section
set_option Elab.async false
set_option linter.all false
set_option maxRecDepth 100000
set_option maxHeartbeats 4000000
/-! The law's own reader. -/
namespace Zd
open PySem PySem.Spec PyProof.Rows L2
/-- what may be handed to the law's reader -/
inductive TxL : PyData → Prop
  | str {t : Str} (h : t.length ≤ 70000) (ok : okS t) : TxL (.str t)
  | non : TxL .none
  | int {i : Int} : TxL (.int i)
theorem TxL.d {D : PyData} (h : TxL D) : TxD D := by
  cases h with
  | str h _ => exact .str h
  | non => exact .non
  | int => exact .int
def linD : Sum Int (List Str) → PyData
  | .inl n => .int n
  | .inr ls => .list (ls.map PyData.str)
def RLawLines (as : List Sl) (M : Mp) (o : Out) : Prop := ∃ D, TxL D ∧ as = [.dat D] ∧ o = .rt (.dat (linD (linesOf D))) M
theorem sc_law_lines : FnScope ["_law_text", "_law_lines_here"] ["_law_text"] (defScope s_law_lines) := ⟨rfl, rfl, rfl, by decide +kernel, rfl, by decide +kernel, by decide +kernel⟩
theorem last_strs {ps : List Str} (h : ps ≠ []) : atI (ps.map PyData.str) (-1) = some (.str (ps.getLastD "")) := by
  rw [atI_neg, List.getLast?_map, List.getLastD_eq_getLast?]
  cases q : ps.getLast? with
  | none => exact absurd (List.getLast?_eq_none_iff.mp q) h
  | some x => rfl
theorem emp_len {t : Str} : decide (t = ("" : Str)) = decide (t.length = 0) := by
  rw [decide_eq_decide]
  constructor
  · intro e
    rw [e]
    rfl
  · intro e
    refine TL.ext_tl ?_
    rw [show TL.tl t = [] from List.eq_nil_of_length_eq_zero (by rw [tl_len]; exact e)]
    rfl
theorem df_law_lines {P : Program} {w : World} {c : Cg} {mg : Str → Option Value} {base : Heap} (T : Tq c mg base) : Df P w c mg base "_law_lines" 1 0 RLawLines :=
  df_mk T.d_law_lines sc_law_lines (fun as M o ⟨_, _, h, _⟩ => by rw [h]; rfl) fun as M o hR f cdv A outer s H E hr => by
    obtain ⟨D, hD, rfl, rfl⟩ := hR
    refine ⟨_, ?_, .inl rfl⟩
    cases hD with
    | non => exact b_hit (et_cast (t_w (w_or (k' := false) (t_not (t_val (d_blt (ds_cons (d_var 0) (ds_cons (d_ty (T := "str") T.b_str) ds_nil)) (y_isi "NoneType" false) T.b_isinstance))) (fun h => by cases h))) rfl) (b_cons (s_ret d_int) rfl) (fun _ _ => nofun)
    | int => exact b_hit (et_cast (t_w (w_or (k' := false) (t_not (t_val (d_blt (ds_cons (d_var 0) (ds_cons (d_ty (T := "str") T.b_str) ds_nil)) (y_isi "int" false) T.b_isinstance))) (fun h => by cases h))) rfl) (b_cons (s_ret d_int) rfl) (fun _ _ => nofun)
    | @str t ht ok =>
      refine b_guard (t_w (w_or (t_not (t_val (d_blt (ds_cons (d_var 0) (ds_cons (d_ty (T := "str") T.b_str) ds_nil)) (y_isi "str" true) T.b_isinstance))) (fun h => (w_or1 (t_cmp (d_var 0) d_str x_eqS))))) (fun k => ?_) (fun _ _ _ => nofun) (fun k => ?_)
      · have k : decide (t = ("" : Str)) = true := k
        rw [emp_len] at k
        have k : t.length = 0 := of_decide_eq_true k
        refine b_cast (b_cons (s_ret d_int) rfl) ?_
        show _ = Out.rt (.dat (linD (if t.length = 0 then _ else _))) M
        rw [if_pos k]
        rfl
      · have k : decide (t = ("" : Str)) = false := k
        rw [emp_len] at k
        have k : t.length ≠ 0 := of_decide_eq_false k
        have nl := nls_le t
        refine b_cons (s_set 1 sc_law_lines.nd (d_split (d_var 0) d_str (by decide) (by omega))) ?_
        refine b_cons (s_ret (d_if (d := .dat (linD (linesOf (.str t)))) (t_cmp (d_ix (d_var 1) (d_neg d_int) (x_ixL (last_strs (nls_ne t)))) d_str x_eqS) (fun h => ed_cast (d_sl (d_var 1) o_none (o_some (d_neg d_int)) sx_list) ?_) (fun h => ed_cast (d_op (d_blt (ds_cons (d_var 1) ds_nil) (y_lenL (ps := nls t) (by omega)) T.b_len) d_int x_sub) ?_))) rfl
        · show _ = Sl.dat (linD (if t.length = 0 then _ else _))
          rw [if_neg k, if_pos (of_decide_eq_true h)]
          show Sl.dat (.list (cutD ((nls t).map PyData.str) none (some (-1)))) = _
          rw [cutD_neg, ← List.map_dropLast]
          rfl
        · show _ = Sl.dat (linD (if t.length = 0 then _ else _))
          rw [if_neg k, if_neg (of_decide_eq_false h)]
          rfl
def almD : Sum Int Alm → PyData
  | .inl n => .int n
  | .inr A => aD A
def RLawRead (as : List Sl) (M : Mp) (o : Out) : Prop := ∃ D, TxL D ∧ as = [.dat D] ∧ o = .rt (.dat (almD (readA D))) M
theorem sc_law_read : FnScope ["_law_text", "_law_lines_here", "_law_some", "_law_hours", "_law_first", "_law_last", "_law_soon", "_law_late", "_law_rest", "_law_parts", "_law_settings", "_law_part", "_law_one_here"] ["_law_text"] (defScope s_law_read) := ⟨rfl, rfl, rfl, by decide +kernel, rfl, by decide +kernel, by decide +kernel⟩
theorem lines_ok {D : PyData} {ls : List Str} (hD : TxL D) (h : linesOf D = .inr ls) : ∀ p ∈ ls, okS p := by
  cases hD with
  | non => cases h
  | int => cases h
  | @str t ht ok =>
    have h : (if t.length = 0 then .inl 0 else if (nls t).getLastD "" = ("" : Str) then .inr (nls t).dropLast else .inl (((nls t).length : Int) - 1) : Sum Int (List Str)) = .inr ls := h
    split at h
    · cases h
    · split at h
      · cases h
        exact fun p hp => okS_nls ok (List.dropLast_subset _ hp)
      · cases h
theorem pad_ok {ls : List Str} (h : ∀ p ∈ ls, okS p) (i : Nat) : okS ((pad5 ls).getD i "") := okS_getD (fun p hp => by
  unfold pad5 at hp
  rcases List.mem_append.mp hp with m | m
  · exact h p m
  · rw [(List.mem_replicate.mp m).2]
    exact okS_empty) i
/-- strictly ascending, told by neighbours -/
theorem zip_lt : ∀ (ns : List Int), (ns.zip (ns.drop 1)).all (fun p => decide (p.1 < p.2)) = true ↔ ns.Pairwise (· < ·)
  | [] => by simp
  | [a] => by simp
  | a :: b :: l => by
    have ih := zip_lt (b :: l)
    show ((decide (a < b)) && ((b :: l).zip l).all (fun p => decide (p.1 < p.2))) = true ↔ _
    rw [Bool.and_eq_true, decide_eq_true_iff, show (((b :: l).zip l).all (fun p => decide (p.1 < p.2)) = true) ↔ (b :: l).Pairwise (· < ·) from ih]
    constructor
    · rintro ⟨h1, h2⟩
      refine List.pairwise_cons.mpr ⟨fun x hx => ?_, h2⟩
      rcases List.mem_cons.mp hx with e | e
      · omega
      · have := (List.pairwise_cons.mp h2).1 x e
        omega
    · intro h
      obtain ⟨h1, h2⟩ := List.pairwise_cons.mp h
      exact ⟨h1 b List.mem_cons_self, h2⟩
theorem sortU_self {ns : List Int} : ns = sortU ns ↔ ns.Pairwise (· < ·) := by
  constructor
  · intro e
    rw [e]
    exact sortU_lt ns
  · intro h
    exact lt_unique _ _ h (sortU_lt ns) fun k => (sortU_mem ns).symm
/-- the fourth line's settings, as the law reads them -/
def osL (line : Str) : List (Option Int) := if line = ("set never" : Str) then [] else ((wds line).drop 1).map setOf
theorem never_wds : (wds "set never").getD 0 "" = ("set" : Str) := by decide +kernel
def k3a (line : Str) : Bool := (!decide ((wds line).getD 0 "" = ("set" : Str))) || ((!(osL line).all (·.isSome)) || (((!decide (line = ("set never" : Str))) && (osL line).isEmpty) || decide (4 < (osL line).length)))
theorem k3a_f {line : Str} (h : k3a line = false) : ∃ ns, setsOf line = some ns ∧ (osL line).map oD = ns.map PyData.int ∧ ns.length ≤ 4 := by
  unfold k3a at h
  simp only [Bool.or_eq_false_iff, Bool.not_eq_false', decide_eq_false_iff_not] at h
  obtain ⟨h1, h2, h3, h4⟩ := h
  refine ⟨(osL line).map fun o => o.getD 0, ?_, oD_all h2, by rw [List.length_map]; omega⟩
  unfold osL at h2 h3 h4 ⊢
  unfold setsOf
  by_cases hn : line = ("set never" : Str)
  · rw [if_pos hn, if_pos hn]
    rfl
  · rw [if_neg hn] at h2 h3 h4
    rw [if_neg hn, if_neg hn, if_pos ?_]
    · rw [List.map_map]
      rfl
    · rw [decide_eq_false hn] at h3
      have h3 : (((wds line).drop 1).map setOf).isEmpty = false := by simpa using h3
      rw [isE_map] at h3
      rw [List.all_map] at h2
      rw [h1, h3]
      exact h2
theorem k3a_t {line : Str} (h : k3a line = true) : ∀ ns, setsOf line = some ns → 4 < ns.length := by
  intro ns e
  unfold setsOf at e
  by_cases hn : line = ("set never" : Str)
  · unfold k3a osL at h
    rw [if_pos hn, hn, never_wds] at h
    cases h
  · rw [if_neg hn] at e
    split at e
    · rename_i hc
      rw [Bool.and_eq_true, Bool.and_eq_true] at hc
      obtain ⟨c1, c2, c3⟩ := hc
      cases e
      unfold k3a osL at h
      rw [if_neg hn, c1, List.all_map, isE_map] at h
      rw [show ((wds line).drop 1).all ((fun x => x.isSome) ∘ setOf) = true from c3] at h
      have c2 : ((wds line).drop 1).isEmpty = false := by simpa using c2
      rw [c2] at h
      simp only [Bool.not_true, Bool.false_or, Bool.and_false] at h
      have := of_decide_eq_true h
      rw [List.length_map] at this ⊢
      exact this
    · cases e
theorem neg_isn {a lo hi : Int} : ((!(decide (lo ≤ a) && decide (a ≤ hi))) || decide (a = 0)) = !(isNum (some a) lo hi && a != 0) := by
  have e : (a != 0) = !decide (a = 0) := by
    rw [bne]
    congr 1
  rw [e]
  show _ = !((decide (lo ≤ a) && decide (a ≤ hi)) && _)
  cases decide (lo ≤ a) <;> cases decide (a ≤ hi) <;> cases decide (a = 0) <;> rfl
theorem or_not {a b : Bool} : ((!a) || !b) = !(a && b) := by cases a <;> cases b <;> rfl
theorem df_law_read {P : Program} {w : World} {c : Cg} {mg : Str → Option Value} {base : Heap} (T : Tq c mg base) : Df P w c mg base "_law_read" 4 0 RLawRead :=
  df_mk T.d_law_read sc_law_read (fun as M o ⟨_, _, h, _⟩ => by rw [h]; rfl) fun as M o hR f cdv A outer s H E hr => by
    obtain ⟨D, hD, rfl, rfl⟩ := hR
    refine ⟨_, ?_, .inl rfl⟩
    refine b_cons (s_set 1 sc_law_read.nd (d_call (df_law_lines T) hr (ds_cons (d_var 0) ds_nil) ⟨D, hD, rfl, rfl⟩)) ?_
    unfold readA
    cases q : linesOf D with
    | inl n => exact b_hit (t_val (d_blt (ds_cons (d_var 1) (ds_cons (d_ty (T := "int") T.b_int) ds_nil)) (y_isi "int" true) T.b_isinstance)) (b_cons (s_ret (d_var 1)) rfl) (fun _ _ => nofun)
    | inr ls =>
      obtain ⟨bl, bm⟩ := lines_bound hD.d q
      have pg := pad_get bm
      have po := pad_ok (lines_ok hD q)
      have pl : (pad5 ls).length = ls.length + 5 := by unfold pad5; rw [List.length_append, List.length_replicate]
      refine b_skip (t_val (d_blt (ds_cons (d_var 1) (ds_cons (d_ty (T := "int") T.b_int) ds_nil)) (y_isi "list" false) T.b_isinstance)) ?_
      have e5 : ls.map PyData.str ++ [PyData.str "", PyData.str "", PyData.str "", PyData.str "", PyData.str ""] = (pad5 ls).map PyData.str := by
        unfold pad5
        rw [List.map_append]
        rfl
      refine b_cons (s_set 2 sc_law_read.nd (ed_cast (d_op (d_var 1) (d_lst (ds_cons d_str (ds_cons d_str (ds_cons d_str (ds_cons d_str (ds_cons d_str ds_nil)))))) (x_catL (by rw [List.length_map]; show ls.length + 5 ≤ _; omega))) (by rw [e5]))) ?_
      refine b_cons (s_asg (d_tup (ds_cons (d_call (df_law_one T) hr (ds_cons (d_ix (d_var 2) d_int (x_str (i := 0) (by omega))) (ds_cons d_str ds_nil)) ⟨_, _, pg 0, po 0, rfl, rfl⟩) (ds_cons (d_call (df_law_two T) hr (ds_cons (d_ix (d_var 2) d_int (x_str (i := 1) (by omega))) (ds_cons d_str ds_nil)) ⟨_, _, pg 1, po 1, rfl, rfl⟩) (ds_cons (d_call (df_law_two T) hr (ds_cons (d_ix (d_var 2) d_int (x_str (i := 2) (by omega))) (ds_cons d_str ds_nil)) ⟨_, _, pg 2, po 2, rfl, rfl⟩) (ds_cons (d_call (df_law_one T) hr (ds_cons (d_ix (d_var 2) d_int (x_str (i := 4) (by omega))) (ds_cons d_str ds_nil)) ⟨_, _, pg 4, po 4, rfl, rfl⟩) ds_nil)))))
        (g_tup (gs_cons (g_name 3 sc_law_read.nd) (gs_cons (g_tup (gs_cons (g_name 4 sc_law_read.nd) (gs_cons (g_name 5 sc_law_read.nd) gs_nil))) (gs_cons (g_tup (gs_cons (g_name 6 sc_law_read.nd) (gs_cons (g_name 7 sc_law_read.nd) gs_nil))) (gs_cons (g_name 8 sc_law_read.nd) gs_nil)))))) ?_
      refine b_pre (ds1 := [.dat D, .dat (.list (ls.map PyData.str)), .dat (.list ((pad5 ls).map PyData.str)), .dat (oD (rH ls)), .dat (oD (rF ls).1), .dat (oD (rF ls).2), .dat (oD (rW ls).1), .dat (oD (rW ls).2), .dat (oD (rR ls)), .no, .no, .no, .no]) (by repeat (first | exact Wk.nil | apply Wk.keep | apply Wk.drop)) ?_
      refine b_guard (k := !c0 ls) (t_not (t_val (d_call (df_law_in T) hr (ds_cons (d_var 3) (ds_cons d_int (ds_cons d_int ds_nil))) ⟨rH ls, 2, 12, rfl, rfl⟩))) (fun k => ?_) (fun _ _ _ => nofun) (fun k0 => ?_)
      · refine b_cast (b_cons (s_ret d_int) rfl) ?_
        show _ = Out.rt (.dat (almD (readL ls))) M
        unfold readL
        rw [if_pos ((Bool.not_eq_true' _).mp k)]
        rfl
      have k0 := (Bool.not_eq_false' _).mp k0
      obtain ⟨h, eh⟩ : ∃ h, rH ls = some h := ⟨_, isNum_some k0⟩
      refine b_pre (ds1 := [.dat D, .dat (.list (ls.map PyData.str)), .dat (.list ((pad5 ls).map PyData.str)), I h, .dat (oD (rF ls).1), .dat (oD (rF ls).2), .dat (oD (rW ls).1), .dat (oD (rW ls).2), .dat (oD (rR ls)), .no, .no, .no, .no]) ?_ ?_
      · rw [← show Sl.dat (oD (rH ls)) = I h by rw [eh]; rfl]
        repeat (first | exact Wk.nil | apply Wk.keep | apply Wk.drop)
      refine b_guard (k := !c1 ls) (et_cast (t_w (w_or (k' := !isNum (rF ls).2 ((rF ls).1.getD 0) ((rF ls).1.getD 0 + h - 1)) (t_not (t_val (d_call (df_law_in T) hr (ds_cons (d_var 4) (ds_cons d_int (ds_cons (d_op (d_var 3) d_int x_sub) ds_nil))) ⟨(rF ls).1, 0, h - 1, rfl, rfl⟩))) (fun k => ?_))) (by rw [or_not]; unfold c1; rw [eh]; rfl)) (fun k => ?_) (fun _ _ _ => nofun) (fun k1 => ?_)
      · obtain ⟨fi, ef⟩ : ∃ h, (rF ls).1 = some h := ⟨_, isNum_some ((Bool.not_eq_false' _).mp k)⟩
        rw [ef]
        exact w_or1 (t_not (t_val (d_call (df_law_in T) hr (ds_cons (d_var 5) (ds_cons (d_var 4) (ds_cons (d_op (d_op (d_var 4) (d_var 3) x_add) d_int x_sub) ds_nil))) ⟨(rF ls).2, fi, fi + h - 1, rfl, rfl⟩)))
      · refine b_cast (b_cons (s_ret d_int) rfl) ?_
        show _ = Out.rt (.dat (almD (readL ls))) M
        unfold readL
        rw [if_neg (nt k0), if_pos ((Bool.not_eq_true' _).mp k)]
        rfl
      have k1 := (Bool.not_eq_false' _).mp k1
      refine b_guard (k := !c2 ls) (et_cast (t_w (w_or (k' := !isNum (rW ls).2 ((rW ls).1.getD 0) 24) (t_not (t_val (d_call (df_law_in T) hr (ds_cons (d_var 6) (ds_cons d_int (ds_cons d_int ds_nil))) ⟨(rW ls).1, 1, 24, rfl, rfl⟩))) (fun k => ?_))) (by rw [or_not]; rfl)) (fun k => ?_) (fun _ _ _ => nofun) (fun k2 => ?_)
      · obtain ⟨si, es⟩ : ∃ h, (rW ls).1 = some h := ⟨_, isNum_some ((Bool.not_eq_false' _).mp k)⟩
        rw [es]
        exact w_or1 (t_not (t_val (d_call (df_law_in T) hr (ds_cons (d_var 7) (ds_cons (d_var 6) (ds_cons d_int ds_nil))) ⟨(rW ls).2, si, 24, rfl, rfl⟩)))
      · refine b_cast (b_cons (s_ret d_int) rfl) ?_
        show _ = Out.rt (.dat (almD (readL ls))) M
        unfold readL
        rw [if_neg (nt k0), if_neg (nt k1), if_pos ((Bool.not_eq_true' _).mp k)]
        rfl
      have k2 := (Bool.not_eq_false' _).mp k2
      have p3 := pg 3
      have o3 := po 3
      have w3 := wds_len ((pad5 ls).getD 3 "")
      have rS_ : rS ls = setsOf ((pad5 ls).getD 3 "") := rfl
      generalize hline : (pad5 ls).getD 3 "" = line at p3 o3 w3 rS_
      have x3 : IxX c (cxOf (L2.CX P w) P w c.K mg base ["_law_text", "_law_lines_here", "_law_some", "_law_hours", "_law_first", "_law_last", "_law_soon", "_law_late", "_law_rest", "_law_parts", "_law_settings", "_law_part", "_law_one_here"] "_law_read" (defScope s_law_read) f cdv A outer s H E) (.dat (.list ((pad5 ls).map PyData.str))) (I 3) (S line) := by
        rw [← hline]
        exact x_str (i := 3) (by omega)
      refine b_cons (s_set 9 sc_law_read.nd (d_wds (d_ix (d_var 2) d_int x3) d_str (by omega))) ?_
      have hdl : ((wds line).drop 1).length ≤ 90000 := by rw [List.length_drop]; omega
      have ol : (osL line).length ≤ 90000 := by
        unfold osL
        split
        · exact Nat.zero_le _
        · rw [List.length_map]; exact hdl
      refine b_cons (s_set 10 sc_law_read.nd (d_if (d := .dat (.tuple ((osL line).map oD))) (t_cmp (d_ix (d_var 2) d_int x3) d_str x_neS) (fun h => ed_cast (d_typ (ds_cons (d_lc (as := (wds line).drop 1) (g := PyData.str) (own := [("_law_part", 11)]) (fun _ => true) (fun p => oD (setOf p)) (fun p => _) [11] rfl (by rfl) sc_law_read.nd (blkOk_cx (by decide +kernel)) (i_lst (ed_cast (d_sl (d_var 9) (o_some d_int) o_none sx_list) (by rw [cutD_1, List.map_drop]))) (by decide) hdl (fun a ha s H C cl fp => (g_name 11 sc_law_read.nd)) (fun a ha s H C cl fp => ts_nil) (fun a ha hp s H C cl fp => (d_call (df_law_setting T) hr (ds_cons (d_var 11) ds_nil) ⟨_, Nat.le_trans (wds_mem (List.mem_of_mem_drop ha)) (by omega), okS_wds o3 (List.mem_of_mem_drop ha), rfl, rfl⟩))) ds_nil) y_tupL T.b_tuple) ?_) (fun h => ed_cast (d_tup ds_nil) ?_))) ?_
      · have h := of_decide_eq_false ((Bool.not_eq_true' _).mp h)
        unfold osL
        rw [if_neg h, List.filter_eq_self.mpr (fun _ _ => rfl), List.map_map]
        rfl
      · have h := of_decide_eq_true ((Bool.not_eq_false' _).mp h)
        unfold osL
        rw [if_pos h]
        rfl
      have lay : ∀ d ∈ (osL line).map oD, layF d 0 := fun d hd => by
        obtain ⟨o, _, rfl⟩ := List.mem_map.mp hd
        cases o
        · exact ⟨rfl, Nat.zero_le _⟩
        · exact layF_int
      refine b_guard (k := k3a line) (et_cast (t_w (w_or (t_cmp (d_ix (d_var 9) d_int (x_str (i := 0) (by omega))) d_str x_neS) (fun _ => (w_or (t_cmp d_non (d_var 10) (x_inT rfl (fl_oD _))) (fun _ => (w_or (t_w (w_and (t_cmp (d_ix (d_var 2) d_int x3) d_str x_neS) (fun _ => (w_and1 (t_cmp (d_var 10) (d_tup ds_nil) (x_eqNilT hr lay)))))) (fun _ => (w_or1 (t_cmp (d_blt (ds_cons (d_var 10) ds_nil) (y_lenT (by omega)) T.b_len) d_int x_gt))))))))) ?_) (fun k => ?_) (fun _ _ _ => nofun) (fun k3 => ?_)
      · rw [inD_none, isE_map]
        unfold k3a
        rw [show decide ((4 : Int) < ((osL line).length : Nat)) = decide (4 < (osL line).length) from decide_eq_decide.mpr (by omega)]
      · refine b_cast (b_cons (s_ret d_int) rfl) ?_
        show _ = Out.rt (.dat (almD (readL ls))) M
        have : c3 ls = false := by
          unfold c3
          rw [rS_]
          cases qs : setsOf line with
          | none => rfl
          | some ns =>
            have := k3a_t k ns qs
            show okSets ns _ = false
            unfold okSets
            rw [decide_eq_false (by omega)]
            rfl
        unfold readL
        rw [if_neg (nt k0), if_neg (nt k1), if_neg (nt k2), if_pos this]
        rfl
      obtain ⟨ns, e1, e2, l4⟩ := k3a_f k3
      rw [e2]
      refine b_guard (k := !(ns.all (fun n => isNum (some n) (1 - h) (h - 1) && n != 0) && (ns.zip (ns.drop 1)).all (fun p => decide (p.1 < p.2)))) (et_cast (t_w (w_or (et_cast (t_cmp (d_lc (as := ns) (g := PyData.int) (own := [("_law_one_here", 12)]) (fun n => !(isNum (some n) (1 - h) (h - 1) && n != 0)) PyData.int (fun p => _) [12] rfl (by rfl) sc_law_read.nd (blkOk_cx (by decide +kernel)) (i_tup (d_var 10)) (by decide) (by omega) (fun a ha s H C cl fp => (g_name 12 sc_law_read.nd)) (fun a ha s H C cl fp => (ts_one (et_cast (t_w (w_or (t_not (t_chain (d_op d_int (d_var 3) x_sub) (d_var 12) (d_op (d_var 3) d_int x_sub) x_le x_le)) (fun _ => (w_or1 (t_cmp (d_var 12) d_int x_eqI))))) ?_))) (fun a ha hp s H C cl fp => (d_var 12))) (d_lst ds_nil) (x_neNilL (n := 0) hr layF_ints)) (by rw [filt_empty])) (fun _ => (w_or1 (t_cmp (d_typ (ds_cons (d_var 10) ds_nil) y_lstT T.b_list) (d_sortSetT (d_var 10) (by omega) T.b_sorted T.b_set) (x_neIntsL hr)))))) ?_) (fun k => ?_) (fun _ _ _ => nofun) (fun k3b => ?_)
      · show _ = !(isNum (some a) (1 - h) (h - 1) && a != 0)
        exact neg_isn
      · rw [Bool.not_and]
        congr 2
        exact Bool.eq_iff_iff.mpr (by rw [decide_eq_true_iff, sortU_self, zip_lt])
      · refine b_cast (b_cons (s_ret d_int) rfl) ?_
        show _ = Out.rt (.dat (almD (readL ls))) M
        have : c3 ls = false := by
          unfold c3
          rw [rS_, e1, eh]
          show okSets ns h = false
          unfold okSets
          rw [(Bool.not_eq_true' _).mp k, Bool.and_false]
        unfold readL
        rw [if_neg (nt k0), if_neg (nt k1), if_neg (nt k2), if_pos this]
        rfl
      have k3 : c3 ls = true := by
        unfold c3
        rw [rS_, e1, eh]
        show okSets ns h = true
        unfold okSets
        rw [(Bool.not_eq_false' _).mp k3b, decide_eq_true l4]
        rfl
      refine b_guard (k := !c4 ls) (t_not (t_val (d_call (df_law_in T) hr (ds_cons (d_var 8) (ds_cons d_int (ds_cons d_int ds_nil))) ⟨rR ls, 1, 12, rfl, rfl⟩))) (fun k => ?_) (fun _ _ _ => nofun) (fun k4 => ?_)
      · refine b_cast (b_cons (s_ret d_int) rfl) ?_
        show _ = Out.rt (.dat (almD (readL ls))) M
        unfold readL
        rw [if_neg (nt k0), if_neg (nt k1), if_neg (nt k2), if_neg (nt k3), if_pos ((Bool.not_eq_true' _).mp k)]
        rfl
      have k4 := (Bool.not_eq_false' _).mp k4
      refine b_cons (s_ret (d_if (d := .dat (almD (readL ls))) (t_cmp (d_blt (ds_cons (d_var 1) ds_nil) (y_lenL (by omega)) T.b_len) d_int x_eqI) (fun k => ed_cast (d_tup (ds_cons (d_var 3) (ds_cons (d_var 4) (ds_cons (d_var 5) (ds_cons (d_var 6) (ds_cons (d_var 7) (ds_cons (d_var 10) (ds_cons (d_var 8) ds_nil)))))))) ?_) (fun k => ed_cast d_int ?_))) rfl
      · have k5 : c5 ls = true := by
          unfold c5
          rw [← show decide ((ls.length : Int) = 5) = decide (ls.length = 5) from dnat]
          exact k
        unfold readL
        rw [if_neg (nt k0), if_neg (nt k1), if_neg (nt k2), if_neg (nt k3), if_neg (nt k4), if_neg (nt k5), eh, rS_, e1]
        unfold c1 at k1
        unfold c2 at k2
        rw [Bool.and_eq_true] at k1 k2
        have e1 := isNum_some k1.1
        have e2 := isNum_some k1.2
        have e3 := isNum_some k2.1
        have e4 := isNum_some k2.2
        have e5 := isNum_some k4
        generalize (rF ls).1 = x1 at e1 ⊢
        generalize (rF ls).2 = x2 at e2 ⊢
        generalize (rW ls).1 = x3 at e3 ⊢
        generalize (rW ls).2 = x4 at e4 ⊢
        generalize rR ls = x5 at e5 ⊢
        rw [e1, e2, e3, e4, e5]
        rfl
      · have k5 : c5 ls = false := by
          unfold c5
          rw [← show decide ((ls.length : Int) = 5) = decide (ls.length = 5) from dnat]
          exact k
        unfold readL
        rw [if_neg (nt k0), if_neg (nt k1), if_neg (nt k2), if_neg (nt k3), if_neg (nt k4), if_pos k5]
        rfl
end Zd
end
/-! ## T12 -/
section
set_option Elab.async false
set_option linter.all false
set_option maxRecDepth 100000
set_option maxHeartbeats 4000000
/-! The Teller. -/
namespace Zd
open PySem PySem.Spec PyProof.Rows L2
def tF (A : Alm) (ws : List Int) (ps : List (Int × Int)) : List (Str × Sl) := [(("almanac" : Str), .dat (aD A)), (("wakings" : Str), .dat (.tuple (ws.map PyData.int))), (("sets" : Str), .dat (psD ps))]
theorem tF_a {A : Alm} {ws : List Int} {ps : List (Int × Int)} : (tF A ws ps).lookup ("almanac" : Str) = some (.dat (aD A)) := rfl
theorem tF_w {A : Alm} {ws : List Int} {ps : List (Int × Int)} : (tF A ws ps).lookup ("wakings" : Str) = some (.dat (.tuple (ws.map PyData.int))) := rfl
theorem tF_s {A : Alm} {ws : List Int} {ps : List (Int × Int)} : (tF A ws ps).lookup ("sets" : Str) = some (.dat (psD ps)) := rfl
theorem tF_pw {A : Alm} {ws : List Int} {ps : List (Int × Int)} {d : Sl} : putS "wakings" d (tF A ws ps) = [(("almanac" : Str), .dat (aD A)), (("wakings" : Str), d), (("sets" : Str), .dat (psD ps))] := by
  unfold tF putS
  rw [if_neg (by decide)]
  unfold putS
  rw [if_pos rfl]
theorem tF_ps {A : Alm} {ws : List Int} {ps : List (Int × Int)} {d : Sl} : putS "sets" d (tF A ws ps) = [(("almanac" : Str), .dat (aD A)), (("wakings" : Str), .dat (.tuple (ws.map PyData.int))), (("sets" : Str), d)] := by
  unfold tF putS
  rw [if_neg (by decide)]
  unfold putS
  rw [if_neg (by decide)]
  unfold putS
  rw [if_pos rfl]
theorem putS_len (f : Str) (d : Sl) : ∀ fs : List (Str × Sl), (putS f d fs).length ≤ fs.length + 1
  | [] => Nat.le_refl _
  | (g, x) :: r => by
    unfold putS
    split
    · exact Nat.le_succ _
    · exact Nat.succ_le_succ (putS_len f d r)
theorem init_put {A : Alm} : putS "sets" (.dat (.tuple [])) (putS "wakings" (.dat (.tuple [])) (putS "almanac" (.dat (aD A)) [])) = tF A [] [] := by
  have e1 : putS "almanac" (.dat (aD A)) [] = [(("almanac" : Str), .dat (aD A))] := rfl
  have e2 : putS "wakings" (.dat (.tuple [])) [(("almanac" : Str), .dat (aD A))] = [(("almanac" : Str), .dat (aD A)), (("wakings" : Str), .dat (.tuple []))] := by
    unfold putS
    rw [if_neg (by decide)]
    rfl
  have e3 : putS "sets" (.dat (.tuple [])) [(("almanac" : Str), .dat (aD A)), (("wakings" : Str), .dat (.tuple []))] = tF A [] [] := by
    unfold putS
    rw [if_neg (by decide)]
    unfold putS
    rw [if_neg (by decide)]
    rfl
  rw [e1, e2, e3]
theorem updM_id {M : Mp} {t : Addr} {v : MO} (h : M t = some v) : updM M t v = M := by
  funext a
  unfold updM
  split
  · rename_i e
    rw [e, h]
  · rfl
theorem last_pairs {ps : List (Int × Int)} (h : ps ≠ []) : atI (ps.map prD) (-1) = some (prD (ps.getLastD (0, 0))) := by
  rw [atI_neg, List.getLast?_map, List.getLastD_eq_getLast?]
  cases q : ps.getLast? with
  | none => exact absurd (List.getLast?_eq_none_iff.mp q) h
  | some x => rfl
theorem last_ws {ws : List Int} (h : ws.isEmpty = false) : atI (ws.map PyData.int) (-1) = some (.int (ws.getLastD 0)) := last_ints (by cases ws with | nil => cases h | cons a b => exact Nat.succ_le_succ (Nat.zero_le _))
theorem last_ps {ps : List (Int × Int)} (h : ps.isEmpty = false) : atI (ps.map prD) (-1) = some (prD (ps.getLastD (0, 0))) := last_pairs (by cases ps with | nil => cases h | cons a b => exact nofun)
/-- a waking that can stand -/
def canW (A : Alm) (ws : List Int) (ps : List (Int × Int)) (h : Int) : Bool := if ws.isEmpty = true then decide (h = 0) else
  (decide (ws.length < 60) && (decide (ws.getLastD 0 + A.s ≤ h) && decide (h ≤ ws.getLastD 0 + A.t))) && (ps.isEmpty || decide ((ps.getLastD (0, 0)).1 ≤ h))
/-- a setting that can stand -/
def canS (A : Alm) (ws : List Int) (ps : List (Int × Int)) (h : Int) (o : Option Int) : Bool :=
  (!(ws.isEmpty || ((!o.isSome) || !inNs (o.getD 0) A.ns))) && ((!((!ps.isEmpty) && decide (h < (ps.getLastD (0, 0)).1 + A.r))) && !((!(decide (ws.getLastD 0 < h) && decide (h ≤ ws.getLastD 0 + A.t))) || decide (ws.length = 60)))
def RInit (C : Addr) (as : List Sl) (M : Mp) (o : Out) : Prop := ∃ (t dx : Addr) (A : Alm), M t = some (.ins C dx []) ∧ as = [.raw (.ref t), .dat (aD A)] ∧ o = .rt (.dat .none) (updM M t (.ins C dx (tF A [] [])))
theorem sc_T_init : FnScope ["self", "almanac"] ["self", "almanac"] (defScope s_T_init) := ⟨rfl, rfl, rfl, by decide +kernel, rfl, by decide +kernel, by decide +kernel⟩
theorem in_teller {P : Program} {w : World} {c : Cg} {mg : Str → Option Value} {base : Heap} {C : Addr} (tl : TlX c.K mg C) : InD P w c mg base C 1 (RInit C) :=
  in_mk tl.i sc_T_init (fun as M o ⟨_, _, _, _, h, _⟩ => by rw [h]; rfl) fun as M o hR f cdv A' outer s H E hr => by
    obtain ⟨t, dx, A, ht, rfl, rfl⟩ := hR
    refine ⟨.nx [.raw (.ref t), .dat (aD A)] _, ?_, .inr ⟨_, _, rfl, rfl⟩⟩
    refine b_cons (s_fld (d_var 1) (d_var 0) ht (by decide) tl.cl tl.a1) ?_
    refine b_cons (s_fld (d_tup ds_nil) (d_var 0) updM_same (Nat.lt_of_le_of_lt (putS_len _ _ _) (by decide)) tl.cl tl.a2) ?_
    rw [updM_updM]
    refine b_cons (s_fld (d_tup ds_nil) (d_var 0) updM_same (Nat.lt_of_le_of_lt (putS_len _ _ _) (Nat.lt_of_le_of_lt (Nat.succ_le_succ (putS_len _ _ _)) (by decide))) tl.cl tl.a3) ?_
    rw [updM_updM]
    refine b_cast b_nil ?_
    rw [init_put]
    rfl
def RWoken (C : Addr) (as : List Sl) (M : Mp) (o : Out) : Prop := ∃ (t dx : Addr) (A : Alm) (ws : List Int) (ps : List (Int × Int)) (h : Int), M t = some (.ins C dx (tF A ws ps)) ∧ ws.length ≤ 80000 ∧ ps.length ≤ 80000 ∧ as = [.raw (.ref t), I h] ∧
  o = .rt (Bo (canW A ws ps h)) (updM M t (.ins C dx (tF A (if canW A ws ps h = true then ws ++ [h] else ws) ps)))
theorem sc_T_woken : FnScope ["self", "hour", "can", "last"] ["self", "hour"] (defScope s_T_woken) := ⟨rfl, rfl, rfl, by decide +kernel, rfl, by decide +kernel, by decide +kernel⟩
theorem me_woken {P : Program} {w : World} {c : Cg} {mg : Str → Option Value} {base : Heap} {C : Addr} (T : Tq c mg base) (tl : TlX c.K mg C) : MeD P w c mg base C "woken" 1 (RWoken C) :=
  me_mk tl.w sc_T_woken (fun as M o ⟨_, _, _, _, _, _, _, _, _, h, _⟩ => by rw [h]; rfl) fun as M o hR f cdv A' outer s H E hr => by
    obtain ⟨t, dx, A, ws, ps, h, ht, lw, lp, rfl, rfl⟩ := hR
    refine ⟨_, ?_, .inl rfl⟩
    show PSs _ _ (tS c E [.raw (.ref t), I h, .no, .no] M _)
    -- what stands behind the if
    have fin : ∀ k : Bool, k = canW A ws ps h → PSs (cxOf (L2.CX P w) P w c.K mg base ["self", "hour", "can", "last"] "Teller.woken" (defScope s_T_woken) f cdv A' outer s H E) ((defBody s_T_woken).drop 1) (tS c E [.raw (.ref t), I h, Bo k, .no] M (.rt (Bo (canW A ws ps h)) (updM M t (.ins C dx (tF A (if canW A ws ps h = true then ws ++ [h] else ws) ps))))) := by
      intro k e
      subst e
      cases q : canW A ws ps h with
      | true =>
        refine b_if (t_truth (d_var 2) (hl := Nat.zero_le _)) (fun _ => ⟨_, b_cons (s_fldaug (d_var 0) (d_tup (ds_cons (d_var 1) ds_nil)) ht tF_w (by show 3 < 100; decide) (by rw [List.length_map]; show ws.length + 1 ≤ _; omega) tl.cl tl.a2) b_nil, ?_⟩) (fun z => by cases z)
        refine b_cast (b_cons (s_ret (d_var 2)) rfl) ?_
        rw [tF_pw, if_pos rfl]
        unfold tF
        rw [List.map_append]
        rfl
      | false =>
        refine b_if (t_truth (d_var 2) (hl := Nat.zero_le _)) (fun z => by cases z) (fun _ => ⟨_, b_nil, ?_⟩)
        refine b_cast (b_cons (s_ret (d_var 2)) rfl) ?_
        rw [if_neg Bool.false_ne_true, updM_id ht]
    refine b_if (k := ws.isEmpty) (et_cast (t_not (t_truth (d_fld (d_var 0) ht tF_w tl.cl tl.a2) (hl := sz_ok (by show (List.map _ ws).length ≤ _; rw [List.length_map]; omega)))) (by rw [trT, isE_map, Bool.not_not])) (fun k => ?_) (fun k => ?_)
    · refine ⟨_, b_cons (s_set 2 sc_T_woken.nd (d_cmp (d_var 1) d_int x_eqI)) b_nil, fin _ ?_⟩
      unfold canW
      rw [if_pos k]
    · have lw2 := last_ws k
      refine ⟨.nx [.raw (.ref t), I h, Bo (canW A ws ps h), .no] M, ?_, fin _ rfl⟩
      refine b_cons (s_set 3 sc_T_woken.nd (d_ix (d_fld (d_var 0) ht tF_w tl.cl tl.a2) (d_neg d_int) (x_ixT lw2))) ?_
      refine b_cons (s_set 2 sc_T_woken.nd (d_and (d_cmp (d_blt (ds_cons (d_fld (d_var 0) ht tF_w tl.cl tl.a2) ds_nil) (y_lenT (by omega)) T.b_len) (d_gint T.k_MOST_WAKINGS.choose_spec) x_lt) (fun _ => (d_one (d_chain (d_op (d_var 3) (d_ix (d_fld (d_var 0) ht tF_a tl.cl tl.a1) d_int (x_ixT (D := .int A.s) rfl)) x_add) (d_var 1) (d_op (d_var 3) (d_ix (d_fld (d_var 0) ht tF_a tl.cl tl.a1) d_int (x_ixT (D := .int A.t) rfl)) x_add) x_le x_le))))) ?_
      refine b_cons (s_set 2 sc_T_woken.nd (d_and (d_var 2) (fun _ => (d_one (d_or (d_notT (d_fld (d_var 0) ht tF_s tl.cl tl.a3) (sz_ok (by show (List.map _ ps).length ≤ _; rw [List.length_map]; omega))) (fun k2 => (d_one (d_cmp (d_ix (d_ix (d_fld (d_var 0) ht tF_s tl.cl tl.a3) (d_neg d_int) (x_ixT (last_ps (by
        have k2 : (!trD (.tuple (ps.map prD))) = false := k2
        rw [trT, isE_map, Bool.not_not] at k2
        exact k2)))) d_int (x_ixT (D := .int (ps.getLastD (0, 0)).1) rfl)) (d_var 1) x_le)))))))) ?_
      refine b_weak (ds1 := [.raw (.ref t), I h, Bo (canW A ws ps h), I (ws.getLastD 0)]) (b_cast b_nil ?_) (.keep (.keep (.keep (.drop .nil))))
      show Out.nx [.raw (.ref t), I h, Bo _, I (ws.getLastD 0)] M = .nx [.raw (.ref t), I h, Bo (canW A ws ps h), I (ws.getLastD 0)] M
      congr 5
      unfold canW
      rw [if_neg (by rw [k]; exact nofun), show decide (ws.length < 60) = decide ((ws.length : Int) < 60) from decide_eq_decide.mpr (by omega)]
      show ((_ && (_ && _)) && ((!trD (.tuple (ps.map prD))) || _)) = _
      rw [trT, isE_map, Bool.not_not]
end Zd
end
/-! ## T13 -/
section
set_option Elab.async false
set_option linter.all false
set_option maxRecDepth 100000
set_option maxHeartbeats 4000000
/-! The Teller, further; read_story. -/
namespace Zd
open PySem PySem.Spec PyProof.Rows L2
theorem et_d {X : Cx} {c : Cg} {ds : List Sl} {M M1 : Mp} {e : Expr} {k k' : Bool} (h : PE X e (tD c ds M (Bo k) M1)) (q : k = k') : PE X e (tD c ds M (Bo k') M1) := q ▸ h
def RSetBy (C : Addr) (as : List Sl) (M : Mp) (o : Out) : Prop := ∃ (t dx : Addr) (A : Alm) (ws : List Int) (ps : List (Int × Int)) (h : Int) (v : Option Int), M t = some (.ins C dx (tF A ws ps)) ∧ ws.length ≤ 80000 ∧ ps.length ≤ 80000 ∧ as = [.raw (.ref t), I h, .dat (oD v)] ∧
  o = .rt (Bo (canS A ws ps h v)) (updM M t (.ins C dx (tF A ws (if canS A ws ps h v = true then ps ++ [(h, v.getD 0)] else ps))))
theorem sc_T_set_by : FnScope ["self", "hour", "setting"] ["self", "hour", "setting"] (defScope s_T_set_by) := ⟨rfl, rfl, rfl, by decide +kernel, rfl, by decide +kernel, by decide +kernel⟩
theorem me_set_by {P : Program} {w : World} {c : Cg} {mg : Str → Option Value} {base : Heap} {C : Addr} (T : Tq c mg base) (tl : TlX c.K mg C) : MeD P w c mg base C "set_by" 1 (RSetBy C) :=
  me_mk tl.s sc_T_set_by (fun as M o ⟨_, _, _, _, _, _, _, _, _, _, h, _⟩ => by rw [h]; rfl) fun as M o hR f cdv A' outer s H E hr => by
    obtain ⟨t, dx, A, ws, ps, h, v, ht, lw, lp, rfl, rfl⟩ := hR
    refine ⟨_, ?_, .inl rfl⟩
    show PSs _ _ (tS c E [.raw (.ref t), I h, .dat (oD v)] M _)
    have lenw : lenD (.tuple (ws.map PyData.int)) ≤ sizeLine := sz_ok (by show (List.map _ ws).length ≤ _; rw [List.length_map]; omega)
    have lenp : lenD (psD ps) ≤ sizeLine := sz_ok (by show (List.map _ ps).length ≤ _; rw [List.length_map]; omega)
    have no : ∀ {q : Bool}, canS A ws ps h v = q → q = false → (Out.rt (Bo false) M = Out.rt (Bo (canS A ws ps h v)) (updM M t (.ins C dx (tF A ws (if canS A ws ps h v = true then ps ++ [(h, v.getD 0)] else ps))))) := by
      intro q e z
      rw [e, z, if_neg Bool.false_ne_true, updM_id ht]
    refine b_guard (k := ws.isEmpty || ((!v.isSome) || !inNs (v.getD 0) A.ns)) (et_cast (t_w (w_or (k := !!ws.isEmpty) (et_cast (t_not (t_truth (d_fld (d_var 0) ht tF_w tl.cl tl.a2) (hl := lenw))) (by rw [trT, isE_map])) (fun _ => (w_or (k' := !inNs (v.getD 0) A.ns) (t_cmp (d_var 2) d_non x_isN) (fun hs => ?_))))) (by rw [oD_non, Bool.not_not])) (fun k => ?_) (fun _ _ _ => nofun) (fun k => ?_)
    · rw [oD_non, Bool.not_eq_false'] at hs
      obtain ⟨i, rfl⟩ := Option.isSome_iff_exists.mp hs
      exact w_or1 (t_cmp (d_var 2) (d_ix (d_fld (d_var 0) ht tF_a tl.cl tl.a1) d_int (x_ixT (D := .tuple (A.ns.map PyData.int)) rfl)) (x_niT rfl (fl_ints _)))
    · refine b_cast (b_cons (s_ret d_bl) rfl) (no rfl ?_)
      unfold canS
      rw [k]
      rfl
    have k1 := k
    rw [Bool.or_eq_false_iff] at k1
    have lw2 := last_ws k1.1
    refine b_guard (k := (!ps.isEmpty) && decide (h < (ps.getLastD (0, 0)).1 + A.r)) (t_w (w_and (et_cast (t_truth (d_fld (d_var 0) ht tF_s tl.cl tl.a3) (hl := lenp)) (by show trD (.tuple (ps.map prD)) = _; rw [trT, isE_map])) (fun k2 => (w_and1 (t_cmp (d_var 1) (d_op (d_ix (d_ix (d_fld (d_var 0) ht tF_s tl.cl tl.a3) (d_neg d_int) (x_ixT (last_ps ((Bool.not_eq_true' _).mp k2)))) d_int (x_ixT (D := .int (ps.getLastD (0, 0)).1) rfl)) (d_ix (d_fld (d_var 0) ht tF_a tl.cl tl.a1) d_int (x_ixT (D := .int A.r) rfl)) x_add) x_lt))))) (fun k => ?_) (fun _ _ _ => nofun) (fun k2 => ?_)
    · refine b_cast (b_cons (s_ret d_bl) rfl) (no rfl ?_)
      unfold canS
      rw [k1.1, k1.2, k]
      rfl
    refine b_guard (k := (!(decide (ws.getLastD 0 < h) && decide (h ≤ ws.getLastD 0 + A.t))) || decide (ws.length = 60)) (et_cast (t_w (w_or (t_not (t_chain (d_ix (d_fld (d_var 0) ht tF_w tl.cl tl.a2) (d_neg d_int) (x_ixT lw2)) (d_var 1) (d_op (d_ix (d_fld (d_var 0) ht tF_w tl.cl tl.a2) (d_neg d_int) (x_ixT lw2)) (d_ix (d_fld (d_var 0) ht tF_a tl.cl tl.a1) d_int (x_ixT (D := .int A.t) rfl)) x_add) x_lt x_le)) (fun _ => (w_or1 (t_cmp (d_blt (ds_cons (d_fld (d_var 0) ht tF_w tl.cl tl.a2) ds_nil) (y_lenT (by omega)) T.b_len) (d_gint T.k_MOST_WAKINGS.choose_spec) x_eqI))))) (by rw [show decide ((ws.length : Int) = 60) = decide (ws.length = 60) from dnat])) (fun k => ?_) (fun _ _ _ => nofun) (fun k3 => ?_)
    · refine b_cast (b_cons (s_ret d_bl) rfl) (no rfl ?_)
      unfold canS
      rw [k1.1, k1.2, k2, k]
      rfl
    have kk : canS A ws ps h v = true := by
      unfold canS
      rw [k1.1, k1.2, k2, k3]
      rfl
    rw [Bool.or_eq_false_iff, Bool.not_eq_false'] at k1
    obtain ⟨i, rfl⟩ := Option.isSome_iff_exists.mp k1.2.1
    refine b_cons (s_fldaug (ys := [prD (h, i)]) (d_var 0) (d_tup (ds_cons (d_tup (ds_cons (d_var 1) (ds_cons (d_var 2) ds_nil))) ds_nil)) ht tF_s (by show 3 < 100; decide) (by rw [List.length_map]; show ps.length + 1 ≤ _; omega) tl.cl tl.a3) ?_
    refine b_cast (b_cons (s_ret d_bl) rfl) ?_
    rw [kk, if_pos rfl, tF_ps]
    unfold tF psD
    rw [List.map_append]
    rfl
/-- one line read -/
def stepL (A : Alm) (st : List Int × List (Int × Int)) (line : Str) : Option (List Int × List (Int × Int)) := match numOf ((wds line).getD 0 "") with
  | none => none
  | some h => if (decide ((wds line).length = 2) && decide ((wds line).getD 1 "" = ("woken" : Str))) = true then (if canW A st.1 st.2 h = true then some (st.1 ++ [h], st.2) else none)
    else if (decide ((wds line).length = 3) && (decide ((wds line).getD 1 "" = ("set" : Str)) && canS A st.1 st.2 h (setOf ((wds line).getD 2 "")))) = true then some (st.1, st.2 ++ [(h, (setOf ((wds line).getD 2 "")).getD 0)]) else none
def stO (st : List Int × List (Int × Int)) (o : Option (List Int × List (Int × Int))) : List Int × List (Int × Int) := o.getD st
def RRead (C : Addr) (as : List Sl) (M : Mp) (o : Out) : Prop := ∃ (t dx : Addr) (A : Alm) (st : List Int × List (Int × Int)) (line : Str), M t = some (.ins C dx (tF A st.1 st.2)) ∧ st.1.length ≤ 80000 ∧ st.2.length ≤ 80000 ∧ line.length ≤ 80000 ∧ as = [.raw (.ref t), S line] ∧
  o = .rt (Bo (stepL A st line).isSome) (updM M t (.ins C dx (tF A (stO st (stepL A st line)).1 (stO st (stepL A st line)).2)))
theorem sc_T_read : FnScope ["self", "line", "parts", "hour"] ["self", "line"] (defScope s_T_read) := ⟨rfl, rfl, rfl, by decide +kernel, rfl, by decide +kernel, by decide +kernel⟩
theorem me_read {P : Program} {w : World} {c : Cg} {mg : Str → Option Value} {base : Heap} {C : Addr} (T : Tq c mg base) (tl : TlX c.K mg C) : MeD P w c mg base C "read" 3 (RRead C) :=
  me_mk tl.r sc_T_read (fun as M o ⟨_, _, _, _, _, _, _, _, _, h, _⟩ => by rw [h]; rfl) fun as M o hR f cdv A' outer s H E hr => by
    obtain ⟨t, dx, A, ⟨ws, ps⟩, line, ht, lw, lp, ll, rfl, rfl⟩ := hR
    refine ⟨_, ?_, .inl rfl⟩
    have hl := wds_len line
    refine b_cons (s_set 2 sc_T_read.nd (d_wds (d_var 1) d_str (by omega))) ?_
    refine b_cons (s_set 3 sc_T_read.nd (d_call (df_number_of T) hr (ds_cons (d_ix (d_var 2) d_int (x_str (i := 0) (by omega))) ds_nil) ⟨_, Nat.le_trans (wds_get line 0) (by omega), rfl, rfl⟩)) ?_
    cases qn : numOf ((wds line).getD 0 "") with
    | none =>
      have e : stepL A (ws, ps) line = none := by unfold stepL; rw [qn]
      rw [e]
      refine b_hit (t_cmp (d_var 3) d_non x_isN) (b_cast (b_cons (s_ret d_bl) rfl) ?_) (fun _ _ => nofun)
      show Out.rt (Bo false) M = .rt (Bo false) (updM M t (.ins C dx (tF A ws ps)))
      rw [updM_id ht]
    | some h =>
      refine b_skip (t_cmp (d_var 3) d_non x_isN) ?_
      refine b_guard (k := decide ((wds line).length = 2) && decide ((wds line).getD 1 "" = ("woken" : Str))) (et_cast (t_w (w_and (t_cmp (d_blt (ds_cons (d_var 2) ds_nil) (y_lenL (by omega)) T.b_len) d_int x_eqI) (fun h => (w_and1 (t_cmp (d_ix (d_var 2) d_int (x_str (i := 1) (by have := of_decide_eq_true h; omega))) d_str x_eqS))))) (by rw [show decide (((wds line).length : Int) = 2) = decide ((wds line).length = 2) from dnat])) (fun k => ?_) (fun _ _ _ => nofun) (fun k => ?_)
      · have e : stepL A (ws, ps) line = if canW A ws ps h = true then some (ws ++ [h], ps) else none := by
          unfold stepL
          rw [qn]
          simp only [k, if_true]
        refine b_cast (b_cons (s_ret (d_meth (me_woken T tl) tl.cl hr (d_var 0) ht rfl (ds_cons (d_var 3) ds_nil) ⟨t, dx, A, ws, ps, h, ht, lw, lp, rfl, rfl⟩)) rfl) ?_
        rw [e]
        cases canW A ws ps h <;> rfl
      · have e : stepL A (ws, ps) line = if (decide ((wds line).length = 3) && (decide ((wds line).getD 1 "" = ("set" : Str)) && canS A ws ps h (setOf ((wds line).getD 2 "")))) = true then some (ws, ps ++ [(h, (setOf ((wds line).getD 2 "")).getD 0)]) else none := by
          unfold stepL
          rw [qn]
          simp only [k, Bool.false_eq_true, if_false]
        have cond : ∀ {k1 k2 : Bool}, decide (((wds line).length : Int) = 3) = k1 → decide ((wds line).getD 1 "" = ("set" : Str)) = k2 → (k1 && k2) = false → Out.rt (Bo false) M = .rt (Bo (stepL A (ws, ps) line).isSome) (updM M t (.ins C dx (tF A (stO (ws, ps) (stepL A (ws, ps) line)).1 (stO (ws, ps) (stepL A (ws, ps) line)).2))) := by
          intro k1 k2 e1 e2 z
          have : stepL A (ws, ps) line = none := by
            rw [e, ← show decide (((wds line).length : Int) = 3) = decide ((wds line).length = 3) from dnat, e1, e2, ← Bool.and_assoc, z]
            rfl
          rw [this]
          show Out.rt (Bo false) M = .rt (Bo false) (updM M t (.ins C dx (tF A ws ps)))
          rw [updM_id ht]
        cases q1 : decide (((wds line).length : Int) = 3) with
        | false => exact b_cast (b_cons (s_ret (ed_cast (d_and (k' := true) (et_d (d_cmp (d_blt (ds_cons (d_var 2) ds_nil) (y_lenL (by omega)) T.b_len) d_int x_eqI) q1) (fun z => by cases z)) rfl)) rfl) (cond q1 rfl rfl)
        | true =>
          have l3 := of_decide_eq_true q1
          cases q2 : decide ((wds line).getD 1 "" = ("set" : Str)) with
          | false => exact b_cast (b_cons (s_ret (ed_cast (d_and (k' := false) (et_d (d_cmp (d_blt (ds_cons (d_var 2) ds_nil) (y_lenL (by omega)) T.b_len) d_int x_eqI) q1) (fun _ => d_and (k' := true) (et_d (d_cmp (d_ix (d_var 2) d_int (x_str (i := 1) (by omega))) d_str x_eqS) q2) (fun z => by cases z))) rfl)) rfl) (cond q1 q2 rfl)
          | true =>
            have e3 : stepL A (ws, ps) line = if canS A ws ps h (setOf ((wds line).getD 2 "")) = true then some (ws, ps ++ [(h, (setOf ((wds line).getD 2 "")).getD 0)]) else none := by
              rw [e, ← show decide (((wds line).length : Int) = 3) = decide ((wds line).length = 3) from dnat, q1, q2]
              rfl
            refine b_cast (b_cons (s_ret (d_and (k' := canS A ws ps h (setOf ((wds line).getD 2 ""))) (et_d (d_cmp (d_blt (ds_cons (d_var 2) ds_nil) (y_lenL (by omega)) T.b_len) d_int x_eqI) q1) (fun _ => d_and (k' := canS A ws ps h (setOf ((wds line).getD 2 ""))) (et_d (d_cmp (d_ix (d_var 2) d_int (x_str (i := 1) (by omega))) d_str x_eqS) q2) (fun _ => d_one (d_meth (me_set_by T tl) tl.cl hr (d_var 0) ht rfl (ds_cons (d_var 3) (ds_cons (d_call (df_setting_of T) hr (ds_cons (d_ix (d_var 2) d_int (x_str (i := 2) (by omega))) ds_nil) ⟨_, Nat.le_trans (wds_get line 2) (by omega), rfl, rfl⟩) ds_nil)) ⟨t, dx, A, ws, ps, h, setOf ((wds line).getD 2 ""), ht, lw, lp, rfl, rfl⟩)) (fun z => by cases z)) (fun z => by cases z))) rfl) ?_
            rw [e3]
            cases canS A ws ps h (setOf ((wds line).getD 2 "")) <;> rfl
end Zd
end
/-! ## T14 -/
section
set_option Elab.async false
set_option linter.all false
set_option maxRecDepth 100000
set_option maxHeartbeats 4000000
/-! read_story. -/
namespace Zd
open PySem PySem.Spec PyProof.Rows L2
theorem em_cast {X : Cx} {c : Cg} {ds : List Sl} {M M1 M2 : Mp} {e : Expr} {d : Sl} (h : PE X e (tD c ds M d M1)) (q : M1 = M2) : PE X e (tD c ds M d M2) := q ▸ h
abbrev Sto := List Int × List (Int × Int)
def scanR (A : Alm) : Nat → Sto → List Str → Sum (Nat × Sto) Sto
  | _, st, [] => .inr st
  | n, st, l :: r => match stepL A st l with
    | none => .inl (n, st)
    | some st' => scanR A (n + 1) st' r
def finS (ls : List Str) (st : Sto) : Sum Int Sto := if ((!st.2.isEmpty) && decide (st.1.getLastD 0 < (st.2.getLastD (0, 0)).1)) = true then .inl (ls.length : Nat) else .inr st
def readSL (A : Alm) (ls : List Str) : Sum Int Sto := match scanR A 0 ([], []) ls with
  | .inl (n, _) => .inl (n : Nat)
  | .inr st => finS ls st
def readS (A : Alm) (D : PyData) : Sum Int Sto := match linesOf D with
  | .inl n => .inl n
  | .inr ls => readSL A ls
def outSt (M : Mp) : Sum Int Sto → Out
  | .inl n => .ex (.text n) M
  | .inr st => .rt (.dat (sD st.1 st.2)) M
def RReadStory (as : List Sl) (M : Mp) (o : Out) : Prop := ∃ (A : Alm) (D : PyData), okAlm A = true ∧ TxD D ∧ as = [.dat (aD A), .dat D] ∧ o = outSt M (readS A D)
theorem sc_read_story : FnScope ["almanac", "text", "lines", "teller", "at", "line"] ["almanac", "text"] (defScope s_read_story) := ⟨rfl, rfl, rfl, by decide +kernel, rfl, by decide +kernel, by decide +kernel⟩
theorem numOf_bound {w : Str} {n : Int} (h : numOf w = some n) : 0 ≤ n ∧ n ≤ 9999 := by
  unfold numOf at h
  split at h
  · rename_i c
    rw [Bool.and_eq_true, Bool.and_eq_true, Bool.and_eq_true] at c
    have := dval_small (of_decide_eq_true c.1.1.2) c.1.2
    cases h
    omega
  · cases h
/-- what holds of a reader's state -/
structure IvS (A : Alm) (st : Sto) : Prop where
  w60 : st.1.length ≤ 60
  ne : st.1 = [] → st.2 = []
  len : (st.2.length : Int) ≤ (st.2.getLastD (0, 0)).1 + 1
  up : (st.2.getLastD (0, 0)).1 ≤ 9999
  pos : ∀ x ∈ st.1, 0 ≤ x
theorem ivs0 (A : Alm) : IvS A ([], []) := ⟨by decide, fun _ => rfl, by decide, by decide, fun x hx => by cases hx⟩
theorem getLastD_snoc {α : Type} (l : List α) (a d : α) : (l ++ [a]).getLastD d = a := by
  rw [List.getLastD_eq_getLast?, List.getLast?_append]
  rfl
theorem ivs_step {A : Alm} {st st' : Sto} {l : Str} (hA : 1 ≤ A.r) (iv : IvS A st) (h : stepL A st l = some st') : IvS A st' := by
  unfold stepL at h
  split at h
  · cases h
  · rename_i n hn
    have bn := numOf_bound hn
    split at h
    · split at h
      · rename_i hc
        cases h
        refine ⟨?_, fun z => absurd z (by simp), iv.len, iv.up, fun x hx => ?_⟩
        · show (st.1 ++ [n]).length ≤ 60
          rw [List.length_append, List.length_singleton]
          unfold canW at hc
          split at hc
          · rename_i he
            rw [List.isEmpty_iff.mp he]
            decide
          · rw [Bool.and_eq_true, Bool.and_eq_true] at hc
            have := of_decide_eq_true hc.1.1
            omega
        · rcases List.mem_append.mp hx with m | m
          · exact iv.pos x m
          · rw [List.mem_singleton.mp m]
            exact bn.1
      · cases h
    · split at h
      · rename_i hc
        rw [Bool.and_eq_true, Bool.and_eq_true] at hc
        have hs := hc.2.2
        unfold canS at hs
        rw [Bool.and_eq_true, Bool.and_eq_true, Bool.not_eq_true', Bool.not_eq_true', Bool.or_eq_false_iff, Bool.and_eq_false_iff] at hs
        obtain ⟨⟨h1, _⟩, h2, _⟩ := hs
        cases h
        refine ⟨iv.w60, fun z => ?_, ?_, ?_, iv.pos⟩
        · have z : st.1 = [] := z
          rw [z] at h1
          cases h1
        · show ((st.2 ++ [(n, _)]).length : Int) ≤ ((st.2 ++ [(n, _)]).getLastD (0, 0)).1 + 1
          rw [getLastD_snoc, List.length_append, List.length_singleton]
          show ((st.2.length + 1 : Nat) : Int) ≤ n + 1
          have := iv.len
          rcases h2 with e | e
          · have e : st.2.isEmpty = true := by simpa using e
            rw [List.isEmpty_iff.mp e]
            simp
            omega
          · have := of_decide_eq_false e
            omega
        · show ((st.2 ++ [(n, _)]).getLastD (0, 0)).1 ≤ 9999
          rw [getLastD_snoc]
          exact bn.2
      · cases h
theorem ivs_scan {A : Alm} (hA : 1 ≤ A.r) : ∀ (ls : List Str) (n : Nat) (st st' : Sto), IvS A st → scanR A n st ls = .inr st' → IvS A st'
  | [], n, st, st', iv, h => by cases h; exact iv
  | l :: r, n, st, st', iv, h => by
    unfold scanR at h
    cases q : stepL A st l with
    | none => rw [q] at h; cases h
    | some s1 =>
      rw [q] at h
      exact ivs_scan hA r (n + 1) s1 st' (ivs_step hA iv q) h
def enumL : Nat → List Str → List (Nat × Str)
  | _, [] => []
  | k, l :: ls => (k, l) :: enumL (k + 1) ls
theorem enumD_L : ∀ (ls : List Str) (k : Nat), enumD k (ls.map PyData.str) = (enumL k ls).map fun p => .tuple [.int (p.1 : Nat), .str p.2]
  | [], _ => rfl
  | l :: ls, k => by
    show PyData.tuple [.int (k : Nat), .str l] :: enumD (k + 1) (ls.map PyData.str) = _
    rw [enumD_L ls (k + 1)]
    rfl
theorem enumL_mem : ∀ {ls : List Str} {k : Nat} {p : Nat × Str}, p ∈ enumL k ls → p.2 ∈ ls
  | [], _, _, h => by cases h
  | l :: ls, k, p, h => by
    rcases List.mem_cons.mp h with e | e
    · rw [e]
      exact List.mem_cons_self
    · exact List.mem_cons_of_mem _ (enumL_mem e)
def MT (M : Mp) (C t dx : Addr) (A : Alm) (st : Sto) : Mp := updM (updM M dx (.own t)) t (.ins C dx (tF A st.1 st.2))
def stpR (M : Mp) (C t dx : Addr) (A : Alm) (st : Sto) (p : Nat × Str) : Sum Out Sto := match stepL A st p.2 with
  | none => .inl (.ex (.text (p.1 : Nat)) (MT M C t dx A st))
  | some st' => .inr st'
theorem scan_stpR {M : Mp} {C t dx : Addr} {A : Alm} : ∀ (ls : List Str) (k : Nat) (st : Sto), scanS (stpR M C t dx A) st (enumL k ls) = match scanR A k st ls with
    | .inl (n, st') => .inl (.ex (.text (n : Nat)) (MT M C t dx A st'))
    | .inr st' => .inr st'
  | [], k, st => rfl
  | l :: ls, k, st => by
    show thenS (stpR M C t dx A st (k, l)) (fun s' => scanS (stpR M C t dx A) s' (enumL (k + 1) ls)) = _
    unfold scanR stpR
    cases q : stepL A st l with
    | none => rfl
    | some s1 => exact scan_stpR ls (k + 1) s1
/-- how the body ends, the Teller still held -/
def oiR (M : Mp) (C t dx : Addr) (A : Alm) (ls : List Str) : Out := match scanR A 0 ([], []) ls with
  | .inl (n, st) => .ex (.text (n : Nat)) (MT M C t dx A st)
  | .inr st => match finS ls st with
    | .inl n => .ex (.text n) (MT M C t dx A st)
    | .inr s2 => .rt (.dat (sD s2.1 s2.2)) (MT M C t dx A st)
theorem MT_sub {M : Mp} {C t dx : Addr} {A : Alm} {st : Sto} (h1 : M t = none) (h2 : M dx = none) : ∀ a u, M a = some u → MT M C t dx A st a = some u := fun a u e => by
  unfold MT
  have n1 : a ≠ t := fun z => by rw [z, h1] at e; cases e
  have n2 : a ≠ dx := fun z => by rw [z, h2] at e; cases e
  rw [updM_ne n1, updM_ne n2]
  exact e
theorem oiR_fgt {M : Mp} {C t dx : Addr} {A : Alm} {ls : List Str} (h1 : M t = none) (h2 : M dx = none) : Fgt M (oiR M C t dx A ls) (outSt M (readSL A ls)) := by
  unfold oiR readSL
  cases scanR A 0 ([], []) ls with
  | inl p => exact .ex (MT_sub h1 h2)
  | inr st =>
    show Fgt M (match finS ls st with | .inl n => _ | .inr s2 => _) (outSt M (finS ls st))
    cases finS ls st with
    | inl n => exact .ex (MT_sub h1 h2)
    | inr s2 => exact .rt (MT_sub h1 h2)
theorem df_read_story {P : Program} {w : World} {c : Cg} {mg : Str → Option Value} {base : Heap} (T : Tq c mg base) : Df P w c mg base "read_story" 5 0 RReadStory :=
  df_mk T.d_read_story sc_read_story (fun as M o ⟨_, _, _, _, h, _⟩ => by rw [h]; rfl) fun as M o hR f cdv A' outer s H E hr => by
    obtain ⟨A, D, hA, hD, rfl, rfl⟩ := hR
    obtain ⟨C, tl⟩ := T.tl
    obtain ⟨fI, xT⟩ := T.xT
    have hAr : 1 ≤ A.r := by
      have := (and7 hA).2.2.2.2.2.2
      unfold isNum at this
      rw [Bool.and_eq_true] at this
      exact of_decide_eq_true this.1
    refine ⟨_, ?_, .inl rfl⟩
    have hx := passes_call (X := cxOf (L2.CX P w) P w c.K mg base ["almanac", "text", "lines", "teller", "at", "line"] "read_story" (defScope s_read_story) f cdv A' outer s H E) (E := E) (takes_of rfl rfl rfl rfl) fun _ _ _ _ h => h
    refine b_cons (s_expr (d_call (df_need_almanac T) hr (ds_cons (d_var 0) ds_nil) ⟨A, hA, rfl, rfl⟩)) ?_
    unfold readS
    cases q : linesOf D with
    | inl n => exact b_cons (s_setX 2 sc_read_story.nd (x_call (df_lines_of T) hr hx (ds_cons (d_var 1) ds_nil) ⟨D, hD, rfl, rfl⟩) (.inr ⟨_, _, by rw [q]; rfl, rfl⟩)) (by rw [q]; exact rfl)
    | inr ls =>
      obtain ⟨bl, bm⟩ := lines_bound hD q
      refine b_cons (s_setX 2 sc_read_story.nd (x_call (df_lines_of T) hr hx (ds_cons (d_var 1) ds_nil) ⟨D, hD, rfl, rfl⟩) (.inl ⟨_, _, by rw [q]; rfl, rfl⟩)) ?_
      show PSs _ _ (tS c E [.dat (aD A), .dat D, .dat (.list (ls.map PyData.str)), .no, .no, .no] M (outSt M (readSL A ls)))
      refine b_make 3 (C := C) (D := aD A) (fs := tF A [] []) (fun t dx => oiR M C t dx A ls) (in_teller tl) sc_read_story.nd hr tl.g (d_var 0) (fun M' t dx ht => ⟨t, dx, A, ht, rfl, rfl⟩) (fun t dx h1 h2 h3 => ?_) (fun t dx h1 h2 h3 => oiR_fgt h1 h2)
      show PSs _ _ (tS c E [.dat (aD A), .dat D, .dat (.list (ls.map PyData.str)), .raw (.ref t), .no, .no] (MT M C t dx A ([], [])) _)
      have stM : ∀ st : Sto, MT M C t dx A st t = some (.ins C dx (tF A st.1 st.2)) := fun st => updM_same
      refine b_cons (s_scan (as := enumL 0 ls) (g := fun p => .tuple [.int (p.1 : Nat), .str p.2]) (stpR M C t dx A) ([], []) (fun _ => [.dat (aD A), .dat D, .dat (.list (ls.map PyData.str)), .raw (.ref t), .no, .no]) (MT M C t dx A) (fun _ p => [.dat (aD A), .dat D, .dat (.list (ls.map PyData.str)), .raw (.ref t), I (p.1 : Nat), S p.2]) [4, 5] (IvS A) (enumD_L ls 0) (passes_of rfl) rfl
        (i_enum (d_var 2) T.b_enumerate) (ivs0 A) (fun st p st' iv hm h => ?_) (fun st p ds' M' => ?_) (fun st p iv hm => g_tup (gs_cons (g_name 4 sc_read_story.nd) (gs_cons (g_name 5 sc_read_story.nd) gs_nil))) (fun st p iv hm => ?_)) ?_
      · unfold stpR at h
        cases qs : stepL A st p.2 with
        | none => rw [qs] at h; cases h
        | some s1 =>
          rw [qs] at h
          cases h
          exact ivs_step hAr iv qs
      · unfold stpR
        cases stepL A st p.2 <;> exact nofun
      · have bp := bm p.2 (enumL_mem hm)
        have i1 := iv.w60
        have i2 := iv.len
        have i3 := iv.up
        have em : updM (MT M C t dx A st) t (.ins C dx (tF A (stO st (stepL A st p.2)).1 (stO st (stepL A st p.2)).2)) = MT M C t dx A (stO st (stepL A st p.2)) := updM_updM
        refine b_guard (k := !(stepL A st p.2).isSome) (M1 := MT M C t dx A (stO st (stepL A st p.2))) (t_not (t_val (em_cast (d_meth (me_read T tl) tl.cl hr (d_var 3) (stM st) rfl (ds_cons (d_var 5) ds_nil) ⟨t, dx, A, st, p.2, stM st, by omega, by omega, by omega, rfl, rfl⟩) em))) (fun k => ?_) (fun k => ?_) (fun k => ?_)
        · have k : stepL A st p.2 = none := by simpa using k
          unfold stpR
          rw [k]
          exact b_cons (s_raiseT rfl xT hr (takes_of rfl rfl rfl rfl) (d_var 4)) rfl
        · have k : stepL A st p.2 = none := by simpa using k
          unfold stpR
          rw [k]
          exact fun _ _ => nofun
        · have k : ∃ s1, stepL A st p.2 = some s1 := by
            cases qs : stepL A st p.2 with
            | none => rw [qs] at k; cases k
            | some s1 => exact ⟨s1, rfl⟩
          obtain ⟨s1, k⟩ := k
          unfold stpR
          rw [k]
          exact b_weak b_nil
      · rw [scan_stpR]
        cases qq : scanR A 0 ([], []) ls with
        | inl p =>
          have eo : oiR M C t dx A ls = .ex (.text (p.1 : Nat)) (MT M C t dx A p.2) := by unfold oiR; rw [qq]
          rw [eo]
          exact rfl
        | inr st =>
          have eo : oiR M C t dx A ls = match finS ls st with
            | .inl n => .ex (.text n) (MT M C t dx A st)
            | .inr s2 => .rt (.dat (sD s2.1 s2.2)) (MT M C t dx A st) := by unfold oiR; rw [qq]
          rw [eo]
          have iv := ivs_scan hAr ls 0 _ _ (ivs0 A) qq
          have i1 := iv.w60
          have i2 := iv.len
          have i3 := iv.up
          show PSs _ _ (tS c E [.dat (aD A), .dat D, .dat (.list (ls.map PyData.str)), .raw (.ref t), .no, .no] (MT M C t dx A st) _)
          have lenp : lenD (psD st.2) ≤ sizeLine := sz_ok (by show (List.map _ st.2).length ≤ _; rw [List.length_map]; omega)
          refine b_guard (k := (!st.2.isEmpty) && decide (st.1.getLastD 0 < (st.2.getLastD (0, 0)).1)) (t_w (w_and (et_cast (t_truth (d_fld (d_var 3) (stM st) tF_s tl.cl tl.a3) (hl := lenp)) (by show trD (.tuple (st.2.map prD)) = _; rw [trT, isE_map])) (fun k => (w_and1 (t_cmp (d_ix (d_ix (d_fld (d_var 3) (stM st) tF_s tl.cl tl.a3) (d_neg d_int) (x_ixT (last_ps ((Bool.not_eq_true' _).mp k)))) d_int (x_ixT (D := .int (st.2.getLastD (0, 0)).1) rfl)) (d_ix (d_fld (d_var 3) (stM st) tF_w tl.cl tl.a2) (d_neg d_int) (x_ixT (last_ws (by
            cases qw : st.1 with
            | nil =>
              rw [iv.ne qw] at k
              cases k
            | cons a b => rfl)))) x_gt))))) (fun k => ?_) (fun k => ?_) (fun k => ?_)
          · unfold finS
            rw [if_pos k]
            exact b_cons (s_raiseT rfl xT hr (takes_of rfl rfl rfl rfl) (d_blt (ds_cons (d_var 2) ds_nil) (y_lenL (by omega)) T.b_len)) rfl
          · unfold finS
            rw [if_pos k]
            exact fun _ _ => nofun
          · unfold finS
            rw [if_neg (by rw [k]; exact nofun)]
            exact b_cons (s_ret (d_tup (ds_cons (d_fld (d_var 3) (stM st) tF_w tl.cl tl.a2) (ds_cons (d_fld (d_var 3) (stM st) tF_s tl.cl tl.a3) ds_nil)))) rfl
end Zd
end
/-! ## T15 -/
section
set_option Elab.async false
set_option linter.all false
set_option maxRecDepth 100000
set_option maxHeartbeats 4000000
/-! The law's own reader of stories. -/
namespace Zd
open PySem PySem.Spec PyProof.Rows L2
theorem drop_one {ps : List Str} {x : Str} : decide (ps.drop 1 = [x]) = (decide (ps.length = 2) && decide (ps.getD 1 "" = x)) := by
  rw [Bool.eq_iff_iff, Bool.and_eq_true, decide_eq_true_iff, decide_eq_true_iff, decide_eq_true_iff]
  match ps with
  | [] => simp
  | [a] => simp
  | [a, b] => simp
  | a :: b :: d :: r => simp
theorem inD_oD (v : Option Int) (ns : List Int) : inD (oD v) (ns.map PyData.int) = (v.isSome && inNs (v.getD 0) ns) := by
  cases v with
  | some i => rfl
  | none =>
    show inD .none (ns.map PyData.int) = false
    unfold inD
    rw [List.any_map]
    rw [List.any_eq_false]
    intro x _
    exact nofun
def freeOf (A : Alm) (ps : List (Int × Int)) : Int := if ps.isEmpty = true then 1 else (ps.getLastD (0, 0)).1 + A.r
/-- the waking cannot stand, as the law tells it -/
def badW (A : Alm) (ws : List Int) (n : Int) : Bool := (ws.isEmpty && !decide (n = 0)) || ((!ws.isEmpty) && !(decide (ws.getLastD 0 + A.s ≤ n) && decide (n ≤ ws.getLastD 0 + A.t)))
def badP (ps : List (Int × Int)) (n : Int) : Bool := (!ps.isEmpty) && decide (n < (ps.getLastD (0, 0)).1)
theorem canW_law {A : Alm} {ws : List Int} {ps : List (Int × Int)} {n : Int} (iv : IvS A (ws, ps)) (h : ws.length ≠ 60) : canW A ws ps n = ((!badW A ws n) && !badP ps n) := by
  unfold canW badW badP
  have w60 := iv.w60
  have ne := iv.ne
  cases ws with
  | nil =>
    have e : ps = [] := ne rfl
    subst e
    simp
  | cons a b =>
    have h1 : (a :: b).isEmpty = false := rfl
    have h2 : decide ((a :: b).length < 60) = true := decide_eq_true (Nat.lt_of_le_of_ne w60 h)
    rw [h1, h2, if_neg Bool.false_ne_true]
    cases ps with
    | nil => cases decide ((a :: b).getLastD 0 + A.s ≤ n) <;> cases decide (n ≤ (a :: b).getLastD 0 + A.t) <;> rfl
    | cons p q =>
      have h3 : decide (((p :: q).getLastD (0, 0)).1 ≤ n) = !decide (n < ((p :: q).getLastD (0, 0)).1) := by
        by_cases hh : n < ((p :: q).getLastD (0, 0)).1
        · rw [decide_eq_true hh, decide_eq_false (by omega)]
          rfl
        · rw [decide_eq_false hh, decide_eq_true (by omega)]
          rfl
      rw [h3]
      cases decide ((a :: b).getLastD 0 + A.s ≤ n) <;> cases decide (n ≤ (a :: b).getLastD 0 + A.t) <;> cases decide (n < ((p :: q).getLastD (0, 0)).1) <;> rfl
def badS (A : Alm) (ws : List Int) (ps : List (Int × Int)) (n : Int) (v : Option Int) : Bool := (!inD (oD v) (A.ns.map PyData.int)) || (ws.isEmpty || (decide (n < freeOf A ps) || !(decide (ws.getLastD 0 < n) && decide (n ≤ ws.getLastD 0 + A.t))))
theorem canS_law {A : Alm} {ws : List Int} {ps : List (Int × Int)} {n : Int} {v : Option Int} (iv : IvS A (ws, ps)) (h : ws.length ≠ 60) : canS A ws ps n v = !badS A ws ps n v := by
  unfold canS badS
  rw [inD_oD, decide_eq_false h]
  cases ws with
  | nil =>
    show (!(true || _) && _) = !(_ || (true || _))
    simp
  | cons a b =>
    have pos : 0 ≤ (a :: b).getLastD 0 := by
      rw [List.getLastD_eq_getLast?]
      cases q : (a :: b).getLast? with
      | none => exact Int.le_refl 0
      | some x => exact iv.pos x (List.mem_of_getLast? q)
    have h1 : (a :: b).isEmpty = false := rfl
    rw [h1]
    unfold freeOf
    cases ps with
    | nil =>
      by_cases hl : (a :: b).getLastD 0 < n
      · have hf : decide (n < (if ([] : List (Int × Int)).isEmpty = true then 1 else (([] : List (Int × Int)).getLastD (0, 0)).1 + A.r)) = false := by
          show decide (n < 1) = false
          exact decide_eq_false (by omega)
        rw [hf, decide_eq_true hl]
        cases v.isSome <;> cases inNs (v.getD 0) A.ns <;> cases decide (n ≤ (a :: b).getLastD 0 + A.t) <;> rfl
      · rw [decide_eq_false hl]
        cases v.isSome <;> cases inNs (v.getD 0) A.ns <;> simp
    | cons p q =>
      have hf : (if (p :: q).isEmpty = true then 1 else ((p :: q).getLastD (0, 0)).1 + A.r) = ((p :: q).getLastD (0, 0)).1 + A.r := if_neg Bool.false_ne_true
      rw [hf]
      cases v.isSome <;> cases inNs (v.getD 0) A.ns <;> cases decide (n < ((p :: q).getLastD (0, 0)).1 + A.r) <;> cases decide ((a :: b).getLastD 0 < n) <;> cases decide (n ≤ (a :: b).getLastD 0 + A.t) <;> rfl
theorem full_none {A : Alm} {st : Sto} {l : Str} (h : st.1.length = 60) : stepL A st l = none := by
  unfold stepL
  split
  · rfl
  · have e1 : ∀ n, canW A st.1 st.2 n = false := fun n => by
      unfold canW
      rw [if_neg (by rw [Bool.not_eq_true]; cases q : st.1 with | nil => rw [q] at h; cases h | cons a b => rfl), decide_eq_false (by omega)]
      rfl
    have e2 : ∀ n v, canS A st.1 st.2 n v = false := fun n v => by
      unfold canS
      rw [decide_eq_true h]
      simp
    split
    · rw [e1]
      rfl
    · rw [e2]
      simp
/-- the step, as the law tells it -/
theorem stepL_law {A : Alm} {ws : List Int} {ps : List (Int × Int)} {l : Str} {n : Int} (iv : IvS A (ws, ps)) (h : ws.length ≠ 60) (hn : numOf ((wds l).getD 0 "") = some n) :
    stepL A (ws, ps) l = if decide ((wds l).drop 1 = [("woken" : Str)]) = true then (if badW A ws n = true then none else if badP ps n = true then none else some (ws ++ [n], ps))
      else if badS A ws ps n (if (decide ((wds l).length = 3) && decide ((wds l).getD 1 "" = ("set" : Str))) = true then setOf ((wds l).getD 2 "") else none) = true then none
      else some (ws, ps ++ [(n, (if (decide ((wds l).length = 3) && decide ((wds l).getD 1 "" = ("set" : Str))) = true then setOf ((wds l).getD 2 "") else none).getD 0)]) := by
  unfold stepL
  rw [hn, drop_one]
  show (if _ then _ else _) = _
  cases q : (decide ((wds l).length = 2) && decide ((wds l).getD 1 "" = ("woken" : Str))) with
  | true =>
    rw [if_pos rfl, if_pos rfl]
    show (if canW A ws ps n = true then _ else _) = _
    rw [canW_law iv h]
    cases badW A ws n <;> cases badP ps n <;> rfl
  | false =>
    rw [if_neg Bool.false_ne_true, if_neg Bool.false_ne_true]
    show (if (_ && (_ && canS A ws ps n _)) = true then _ else _) = _
    rw [← Bool.and_assoc]
    cases q2 : (decide ((wds l).length = 3) && decide ((wds l).getD 1 "" = ("set" : Str))) with
    | true =>
      rw [if_pos rfl, canS_law iv h, Bool.true_and]
      cases badS A ws ps n (setOf ((wds l).getD 2 "")) <;> rfl
    | false =>
      have : badS A ws ps n none = true := by
        unfold badS
        rw [inD_oD]
        rfl
      rw [if_neg Bool.false_ne_true (α := Option Int), this]
      rfl
def stoD : Sum Int Sto → PyData
  | .inl n => .int n
  | .inr st => sD st.1 st.2
def RLawReadStory (as : List Sl) (M : Mp) (o : Out) : Prop := ∃ (A : Alm) (D : PyData), 1 ≤ A.r ∧ TxL D ∧ as = [.dat (aD A), .dat D] ∧ o = .rt (.dat (stoD (readS A D))) M
theorem sc_law_read_story : FnScope ["_law_almanac_here", "_law_text", "_law_lines_here", "_law_wakings", "_law_sets", "_law_at", "_law_parts", "_law_hour", "_law_free", "_law_setting_here"] ["_law_almanac_here", "_law_text"] (defScope s_law_read_story) := ⟨rfl, rfl, rfl, by decide +kernel, rfl, by decide +kernel, by decide +kernel⟩
theorem rng_enumL : ∀ (ls : List Str) (k : Nat), (List.range ls.length).map (fun i => PyData.int ((k : Int) + (i : Nat))) = (enumL k ls).map fun p => .int (p.1 : Nat)
  | [], _ => rfl
  | l :: ls, k => by
    have ih := rng_enumL ls (k + 1)
    rw [List.length_cons, List.range_succ_eq_map, List.map_cons, List.map_map]
    show PyData.int ((k : Int) + (0 : Nat)) :: _ = PyData.int (k : Nat) :: _
    rw [← ih]
    congr 1
    refine List.map_congr_left fun i _ => ?_
    show PyData.int ((k : Int) + ((i + 1 : Nat) : Int)) = PyData.int (((k + 1 : Nat) : Int) + (i : Nat))
    congr 1
    omega
theorem enumL_get : ∀ {ls : List Str} {k : Nat} {p : Nat × Str}, p ∈ enumL k ls → k ≤ p.1 ∧ ls[p.1 - k]? = some p.2
  | [], _, _, h => by cases h
  | l :: ls, k, p, h => by
    rcases List.mem_cons.mp h with e | e
    · rw [e]
      exact ⟨Nat.le_refl _, by simp⟩
    · obtain ⟨a, b⟩ := enumL_get e
      refine ⟨by omega, ?_⟩
      rw [show p.1 - k = (p.1 - (k + 1)) + 1 by omega, List.getElem?_cons_succ]
      exact b
theorem cont_nil {X : Cx} {c : Cg} {E : XK} {o : Out} : Cont X c E [] o o := by
  cases o with
  | nx ds M => exact b_nil
  | rt d M => exact rfl
  | ex e M => exact rfl
def stpW (A : Alm) (M : Mp) (st : Sto) (p : Nat × Str) : Sum Out Sto := match stepL A st p.2 with
  | none => .inl (.rt (I (p.1 : Nat)) M)
  | some st' => .inr st'
theorem scan_stpW {A : Alm} {M : Mp} : ∀ (ls : List Str) (k : Nat) (st : Sto), scanS (stpW A M) st (enumL k ls) = match scanR A k st ls with
    | .inl (n, _) => .inl (.rt (I (n : Nat)) M)
    | .inr st' => .inr st'
  | [], k, st => rfl
  | l :: ls, k, st => by
    show thenS (stpW A M st (k, l)) (fun s' => scanS (stpW A M) s' (enumL (k + 1) ls)) = _
    unfold scanR stpW
    cases q : stepL A st l with
    | none => rfl
    | some s1 => exact scan_stpW ls (k + 1) s1
theorem df_law_read_story {P : Program} {w : World} {c : Cg} {mg : Str → Option Value} {base : Heap} (T : Tq c mg base) : Df P w c mg base "_law_read_story" 4 0 RLawReadStory :=
  df_mk T.d_law_read_story sc_law_read_story (fun as M o ⟨_, _, _, _, h, _⟩ => by rw [h]; rfl) fun as M o hR f cdv A' outer s H E hr => by
    obtain ⟨A, D, hA, hD, rfl, rfl⟩ := hR
    refine ⟨_, ?_, .inl rfl⟩
    refine b_cons (s_set 2 sc_law_read_story.nd (d_call (df_law_lines T) hr (ds_cons (d_var 1) ds_nil) ⟨D, hD, rfl, rfl⟩)) ?_
    unfold readS
    cases q : linesOf D with
    | inl n => exact b_hit (t_val (d_blt (ds_cons (d_var 2) (ds_cons (d_ty (T := "int") T.b_int) ds_nil)) (y_isi "int" true) T.b_isinstance)) (b_cons (s_ret (d_var 2)) rfl) (fun _ _ => nofun)
    | inr ls =>
      obtain ⟨bl, bm⟩ := lines_bound hD.d q
      have bo := lines_ok hD q
      refine b_skip (t_val (d_blt (ds_cons (d_var 2) (ds_cons (d_ty (T := "int") T.b_int) ds_nil)) (y_isi "list" false) T.b_isinstance)) ?_
      refine b_cons (s_asg (d_tup (ds_cons (d_tup ds_nil) (ds_cons (d_tup ds_nil) ds_nil))) (g_tup (gs_cons (g_name 3 sc_law_read_story.nd) (gs_cons (g_name 4 sc_law_read_story.nd) gs_nil)))) ?_
      show PSs _ _ (tS c E [.dat (aD A), .dat D, .dat (.list (ls.map PyData.str)), .dat (.tuple (([] : List Int).map PyData.int)), .dat (psD []), .no, .no, .no, .no, .no] M (.rt (.dat (stoD (readSL A ls))) M))
      refine b_cons (s_scan (as := enumL 0 ls) (g := fun p => .int (p.1 : Nat)) (stpW A M) ([], []) (fun st => [.dat (aD A), .dat D, .dat (.list (ls.map PyData.str)), .dat (.tuple (st.1.map PyData.int)), .dat (psD st.2), .no, .no, .no, .no, .no]) (fun _ => M) (fun st p => [.dat (aD A), .dat D, .dat (.list (ls.map PyData.str)), .dat (.tuple (st.1.map PyData.int)), .dat (psD st.2), I (p.1 : Nat), .no, .no, .no, .no]) [5] (IvS A) ?_ (passes_of rfl) rfl
        (i_rng1 (d_blt (ds_cons (d_var 2) ds_nil) (y_lenL (by omega)) T.b_len) (by omega) T.b_range) (ivs0 A) (fun st p st' iv hm h => ?_) (fun st p ds' M' => ?_) (fun st p iv hm => g_name 5 sc_law_read_story.nd) (fun st p iv hm => ?_)) ?_
      · show rngD 0 ((ls.length : Int)).toNat = _
        rw [Int.toNat_natCast]
        exact rng_enumL ls 0
      · unfold stpW at h
        cases qs : stepL A st p.2 with
        | none => rw [qs] at h; cases h
        | some s1 =>
          rw [qs] at h
          cases h
          exact ivs_step hA iv qs
      · unfold stpW
        cases stepL A st p.2 <;> exact nofun
      · obtain ⟨ws, ps⟩ := st
        obtain ⟨n0, l⟩ := p
        have bp : l.length ≤ 70000 := bm l (enumL_mem hm)
        have lo : okS l := bo l (enumL_mem hm)
        obtain ⟨_, gt⟩ := enumL_get hm
        have i1 : ws.length ≤ 60 := iv.w60
        have i2 : (ps.length : Int) ≤ (ps.getLastD (0, 0)).1 + 1 := iv.len
        have i3 : (ps.getLastD (0, 0)).1 ≤ 9999 := iv.up
        have hl := wds_len l
        have xl : IxX c (cxOf (L2.CX P w) P w c.K mg base ["_law_almanac_here", "_law_text", "_law_lines_here", "_law_wakings", "_law_sets", "_law_at", "_law_parts", "_law_hour", "_law_free", "_law_setting_here"] "_law_read_story" (defScope s_law_read_story) f cdv A' outer s H E) (.dat (.list (ls.map PyData.str))) (I (n0 : Nat)) (S l) := by
          refine x_ixL ?_
          rw [atI_nat, List.getElem?_map, show ls[n0]? = some l from gt]
          rfl
        have layw : ∀ d ∈ ws.map PyData.int, layF d 0 := layF_ints
        have layp : ∀ d ∈ ps.map prD, layF d 1 := layF_pairs
        show PSs _ _ (tS c E [.dat (aD A), .dat D, .dat (.list (ls.map PyData.str)), .dat (.tuple (ws.map PyData.int)), .dat (psD ps), I (n0 : Nat), .no, .no, .no, .no] M (outS _ _ (stpW A M (ws, ps) (n0, l))))
        refine b_cons (s_set 6 sc_law_read_story.nd (d_wds (d_ix (d_var 2) (d_var 5) xl) d_str (by omega))) ?_
        refine b_cons (s_par (d1 := .dat (oD (numOf ((wds l).getD 0 "")))) (d2 := I (freeOf A ps)) 7 8 sc_law_read_story.nd (ds_cons (d_call (df_law_number T) hr (ds_cons (d_ix (d_var 6) d_int (x_str (i := 0) (by omega))) ds_nil) ⟨_, Nat.le_trans (wds_get l 0) (by omega), okS_wget lo 0, rfl, rfl⟩) (ds_cons (d_if (k := !ps.isEmpty) (et_cast (t_cmp (d_var 4) (d_tup ds_nil) (x_neNilT hr layp)) (by rw [isE_map])) (fun k => ed_cast (d_op (d_ix (d_ix (d_var 4) (d_neg d_int) (x_ixT (last_ps ((Bool.not_eq_true' _).mp k)))) d_int (x_ixT (D := .int (ps.getLastD (0, 0)).1) rfl)) (d_ix (d_var 0) d_int (x_ixT (D := .int A.r) rfl)) x_add) (by unfold freeOf; rw [if_neg (by rw [(Bool.not_eq_true' _).mp k]; exact nofun)])) (fun k => ed_cast d_int (by unfold freeOf; rw [if_pos ((Bool.not_eq_false' _).mp k)]))) ds_nil))) ?_
        have none_out : stepL A (ws, ps) l = none → outS (fun st : Sto => [Sl.dat (aD A), .dat D, .dat (.list (ls.map PyData.str)), .dat (.tuple (st.1.map PyData.int)), .dat (psD st.2), .no, .no, .no, .no, .no]) (fun _ => M) (stpW A M (ws, ps) (n0, l)) = .rt (I (n0 : Nat)) M := fun e => by
          unfold stpW
          rw [e]
          rfl
        have some_out : ∀ st', stepL A (ws, ps) l = some st' → outS (fun st : Sto => [Sl.dat (aD A), .dat D, .dat (.list (ls.map PyData.str)), .dat (.tuple (st.1.map PyData.int)), .dat (psD st.2), .no, .no, .no, .no, .no]) (fun _ => M) (stpW A M (ws, ps) (n0, l)) = .nx [.dat (aD A), .dat D, .dat (.list (ls.map PyData.str)), .dat (.tuple (st'.1.map PyData.int)), .dat (psD st'.2), .no, .no, .no, .no, .no] M := fun st' e => by
          unfold stpW
          rw [e]
          rfl
        refine b_guard (k := (!(numOf ((wds l).getD 0 "")).isSome) || decide (ws.length = 60)) (et_cast (t_w (w_or (t_cmp (d_var 7) d_non x_isN) (fun _ => (w_or1 (t_cmp (d_blt (ds_cons (d_var 3) ds_nil) (y_lenT (by omega)) T.b_len) d_int x_eqI))))) (by rw [oD_non, show decide ((ws.length : Int) = 60) = decide (ws.length = 60) from dnat])) (fun k => ?_) (fun k => ?_) (fun k => ?_)
        · have e : stepL A (ws, ps) l = none := by
            rw [Bool.or_eq_true] at k
            rcases k with k | k
            · have k : numOf ((wds l).getD 0 "") = none := by simpa using k
              unfold stepL
              rw [k]
            · exact full_none (of_decide_eq_true k)
          rw [none_out e]
          exact b_cons (s_ret (d_var 5)) rfl
        · have e : stepL A (ws, ps) l = none := by
            rw [Bool.or_eq_true] at k
            rcases k with k | k
            · have k : numOf ((wds l).getD 0 "") = none := by simpa using k
              unfold stepL
              rw [k]
            · exact full_none (of_decide_eq_true k)
          rw [none_out e]
          exact fun _ _ => nofun
        rw [Bool.or_eq_false_iff] at k
        have n60 := of_decide_eq_false k.2
        obtain ⟨n, en⟩ : ∃ n, numOf ((wds l).getD 0 "") = some n := Option.isSome_iff_exists.mp ((Bool.not_eq_false' _).mp k.1)
        have sl := stepL_law iv n60 en
        refine b_pre (ds1 := [.dat (aD A), .dat D, .dat (.list (ls.map PyData.str)), .dat (.tuple (ws.map PyData.int)), .dat (psD ps), I (n0 : Nat), .dat (.list ((wds l).map PyData.str)), I n, I (freeOf A ps), .no]) ?_ ?_
        · rw [← show Sl.dat (oD (numOf ((wds l).getD 0 ""))) = I n by rw [en]; rfl]
          repeat (first | exact Wk.nil | apply Wk.keep | apply Wk.drop)
        refine b_if (k := decide ((wds l).drop 1 = [("woken" : Str)])) (et_cast (t_cmp (ed_cast (d_sl (d_var 6) (o_some d_int) o_none sx_list) (by rw [cutD_1, ← List.map_drop])) (d_lst (ds_cons d_str ds_nil)) (x_eqStrsL (ys := [("woken" : Str)]) hr (fun p hp => okS_wds lo (List.mem_of_mem_drop hp)) (fun p hp => by
          rw [List.mem_singleton.mp hp]
          intro ch hc
          have : ch ∈ [119, 111, 107, 101, 110] := hc
          simp only [List.mem_cons, List.not_mem_nil, or_false] at this
          omega))) rfl) (fun kw => ⟨_, ?_, cont_nil⟩) (fun kw => ⟨_, ?_, cont_nil⟩)
        · rw [kw, if_pos rfl] at sl
          refine b_guard (k := badW A ws n) (et_cast (t_w (w_or (t_w (w_and (t_cmp (d_var 3) (d_tup ds_nil) (x_eqNilT hr layw)) (fun _ => (w_and1 (t_cmp (d_var 7) d_int x_neI))))) (fun _ => (w_or1 (t_w (w_and (t_cmp (d_var 3) (d_tup ds_nil) (x_neNilT hr layw)) (fun k => (w_and1 (t_not (t_chain (d_op (d_ix (d_var 3) (d_neg d_int) (x_ixT (last_ws (by rw [isE_map] at k; exact (Bool.not_eq_true' _).mp k)))) (d_ix (d_var 0) d_int (x_ixT (D := .int A.s) rfl)) x_add) (d_var 7) (d_op (d_ix (d_var 3) (d_neg d_int) (x_ixT (last_ws (by rw [isE_map] at k; exact (Bool.not_eq_true' _).mp k)))) (d_ix (d_var 0) d_int (x_ixT (D := .int A.t) rfl)) x_add) x_le x_le)))))))))) (by rw [isE_map]; rfl)) (fun k => ?_) (fun k => ?_) (fun k => ?_)
          · rw [k, if_pos rfl] at sl
            rw [none_out sl]
            exact b_cons (s_ret (d_var 5)) rfl
          · rw [k, if_pos rfl] at sl
            rw [none_out sl]
            exact fun _ _ => nofun
          · rw [k, if_neg Bool.false_ne_true] at sl
            refine b_guard (k := badP ps n) (et_cast (t_w (w_and (t_cmp (d_var 4) (d_tup ds_nil) (x_neNilT hr layp)) (fun k => (w_and1 (t_cmp (d_ix (d_ix (d_var 4) (d_neg d_int) (x_ixT (last_ps (by rw [isE_map] at k; exact (Bool.not_eq_true' _).mp k)))) d_int (x_ixT (D := .int (ps.getLastD (0, 0)).1) rfl)) (d_var 7) x_gt))))) (by rw [isE_map]; rfl)) (fun k => ?_) (fun k => ?_) (fun k => ?_)
            · rw [k, if_pos rfl] at sl
              rw [none_out sl]
              exact b_cons (s_ret (d_var 5)) rfl
            · rw [k, if_pos rfl] at sl
              rw [none_out sl]
              exact fun _ _ => nofun
            · rw [k, if_neg Bool.false_ne_true] at sl
              rw [some_out _ sl]
              refine b_weak (ds1 := [.dat (aD A), .dat D, .dat (.list (ls.map PyData.str)), .dat (.tuple ((ws ++ [n]).map PyData.int)), .dat (psD ps), I (n0 : Nat), .dat (.list ((wds l).map PyData.str)), I n, I (freeOf A ps), .no]) ?_
              refine b_cons (s_set 3 sc_law_read_story.nd (d_op (d_var 3) (d_tup (ds_cons (d_var 7) ds_nil)) (x_catT (by rw [List.length_map]; show ws.length + 1 ≤ _; omega)))) ?_
              refine b_cast b_nil ?_
              rw [List.map_append]
              rfl
        · rw [kw, if_neg Bool.false_ne_true] at sl
          generalize hv : (if (decide ((wds l).length = 3) && decide ((wds l).getD 1 "" = ("set" : Str))) = true then setOf ((wds l).getD 2 "") else none) = v at sl
          refine b_cons (s_set (d := .dat (oD v)) 9 sc_law_read_story.nd (d_if (k := decide ((wds l).length = 3) && decide ((wds l).getD 1 "" = ("set" : Str))) (et_cast (t_w (w_and (t_cmp (d_blt (ds_cons (d_var 6) ds_nil) (y_lenL (by omega)) T.b_len) d_int x_eqI) (fun k => (w_and1 (t_cmp (d_ix (d_var 6) d_int (x_str (i := 1) (by have := of_decide_eq_true k; omega))) d_str x_eqS))))) (by rw [show decide (((wds l).length : Int) = 3) = decide ((wds l).length = 3) from dnat])) (fun k => ed_cast (d_call (df_law_setting T) hr (ds_cons (d_ix (d_var 6) d_int (x_str (i := 2) (by have := of_decide_eq_true (Bool.and_eq_true_iff.mp k).1; omega))) ds_nil) ⟨_, Nat.le_trans (wds_get l 2) (by omega), okS_wget lo 2, rfl, rfl⟩) (by rw [← hv, if_pos k])) (fun k => ed_cast d_non (by rw [← hv, if_neg (by rw [k]; exact nofun)]; rfl)))) ?_
          have flv : flD (oD v) = true := by cases v <;> rfl
          refine b_guard (k := badS A ws ps n v) (et_cast (t_w (w_or (t_cmp (d_var 9) (d_ix (d_var 0) d_int (x_ixT (D := .tuple (A.ns.map PyData.int)) rfl)) (x_niT flv (fl_ints _))) (fun _ => (w_or (t_cmp (d_var 3) (d_tup ds_nil) (x_eqNilT hr layw)) (fun k => (w_or (t_cmp (d_var 7) (d_var 8) x_lt) (fun _ => (w_or1 (t_not (t_chain (d_ix (d_var 3) (d_neg d_int) (x_ixT (last_ws (by rw [isE_map] at k; exact k)))) (d_var 7) (d_op (d_ix (d_var 3) (d_neg d_int) (x_ixT (last_ws (by rw [isE_map] at k; exact k)))) (d_ix (d_var 0) d_int (x_ixT (D := .int A.t) rfl)) x_add) x_lt x_le)))))))))) (by rw [isE_map]; rfl)) (fun k => ?_) (fun k => ?_) (fun k => ?_)
          · rw [k, if_pos rfl] at sl
            rw [none_out sl]
            exact b_cons (s_ret (d_var 5)) rfl
          · rw [k, if_pos rfl] at sl
            rw [none_out sl]
            exact fun _ _ => nofun
          · have kk := k
            rw [k, if_neg Bool.false_ne_true] at sl
            rw [some_out _ sl]
            obtain ⟨i, rfl⟩ : ∃ i, v = some i := by
              cases v with
              | some i => exact ⟨i, rfl⟩
              | none =>
                unfold badS at kk
                rw [inD_oD] at kk
                cases kk
            refine b_weak (ds1 := [.dat (aD A), .dat D, .dat (.list (ls.map PyData.str)), .dat (.tuple (ws.map PyData.int)), .dat (psD (ps ++ [(n, i)])), I (n0 : Nat), .dat (.list ((wds l).map PyData.str)), I n, I (freeOf A ps), I i]) ?_
            refine b_cons (s_set 4 sc_law_read_story.nd (d_op (d_var 4) (d_tup (ds_cons (d_tup (ds_cons (d_var 7) (ds_cons (d_var 9) ds_nil))) ds_nil)) (x_catT (by rw [List.length_map]; show ps.length + 1 ≤ _; omega)))) ?_
            refine b_cast b_nil ?_
            unfold psD
            rw [List.map_append]
            rfl
      · rw [scan_stpW]
        unfold readSL
        cases qq : scanR A 0 ([], []) ls with
        | inl p => exact rfl
        | inr st =>
          have iv := ivs_scan hA ls 0 _ _ (ivs0 A) qq
          have i1 := iv.w60
          have i2 := iv.len
          have i3 := iv.up
          have layp : ∀ d ∈ st.2.map prD, layF d 1 := layF_pairs
          show PSs _ _ (tS c E [.dat (aD A), .dat D, .dat (.list (ls.map PyData.str)), .dat (.tuple (st.1.map PyData.int)), .dat (psD st.2), .no, .no, .no, .no, .no] M (.rt (.dat (stoD (finS ls st))) M))
          have nw : st.2.isEmpty = false → st.1.isEmpty = false := fun k => by
            cases qw : st.1 with
            | nil =>
              rw [iv.ne qw] at k
              cases k
            | cons a b => rfl
          refine b_cons (s_ret (d_if (d := .dat (stoD (finS ls st))) (t_w (w_or (t_cmp (d_var 4) (d_tup ds_nil) (x_eqNilT hr layp)) (fun k => (w_or1 (t_cmp (d_ix (d_ix (d_var 4) (d_neg d_int) (x_ixT (last_ps (by rw [isE_map] at k; exact k)))) d_int (x_ixT (D := .int (st.2.getLastD (0, 0)).1) rfl)) (d_ix (d_var 3) (d_neg d_int) (x_ixT (last_ws (nw (by rw [isE_map] at k; exact k))))) x_le))))) (fun k => ed_cast (d_tup (ds_cons (d_var 3) (ds_cons (d_var 4) ds_nil))) ?_) (fun k => ed_cast (d_blt (ds_cons (d_var 2) ds_nil) (y_lenL (by omega)) T.b_len) ?_))) rfl
          · rw [isE_map] at k
            unfold finS
            rw [if_neg ?_]
            · rfl
            · intro z
              rw [Bool.and_eq_true] at z
              have z2 := of_decide_eq_true z.2
              rw [(Bool.not_eq_true' _).mp z.1] at k
              have := of_decide_eq_true ((Bool.false_or _).symm.trans k)
              omega
          · rw [isE_map, Bool.or_eq_false_iff] at k
            unfold finS
            rw [if_pos ?_]
            · rfl
            · rw [k.1]
              have := of_decide_eq_false k.2
              exact decide_eq_true (by omega)
end Zd
end
/-! ## T16 -/
section
set_option Elab.async false
set_option linter.all false
set_option maxRecDepth 100000
set_option maxHeartbeats 4000000
/-! written, told. -/
namespace Zd
open PySem PySem.Spec PyProof.Rows L2
theorem app_len (x y : Str) : (x ++ y).length = x.length + y.length := by rw [TL.len_tl, TL.tl_append, List.length_append, ← TL.len_tl, ← TL.len_tl]
theorem signedOf_len {n : Int} (h : n.natAbs < 10 ^ 30) : (signedOf n).length ≤ 41 := by
  unfold signedOf
  rw [app_len]
  have h1 : (if 0 < n then ("+" : Str) else ("-" : Str)).length ≤ 1 := by split <;> decide
  have h2 : (numS (if n < 0 then -n else n)).length ≤ 40 := numS_len (by split <;> omega)
  omega
def joinNl (ls : List Str) : Str := Txt.join "" (ls.map fun l => l ++ "\n")
def wordsOf (ns : List Int) : Str := if ns.isEmpty = true then "never" else Txt.join " " (ns.map signedOf)
def lnA (A : Alm) : List Str := ["day " ++ numS A.h, "window " ++ numS A.f ++ " to " ++ numS A.l, "woken " ++ numS A.s ++ " to " ++ numS A.t, "set " ++ wordsOf A.ns, "rest " ++ numS A.r]
def writtenOf (A : Alm) : Str := joinNl (lnA A)
theorem isNum_le {i lo hi : Int} (h : isNum (some i) lo hi = true) : lo ≤ i ∧ i ≤ hi := by
  unfold isNum at h
  rw [Bool.and_eq_true] at h
  exact ⟨of_decide_eq_true h.1, of_decide_eq_true h.2⟩
/-- an almanac's numbers are small -/
structure SmA (A : Alm) : Prop where
  h : 2 ≤ A.h ∧ A.h ≤ 12
  f : 0 ≤ A.f ∧ A.f ≤ 11
  l : 0 ≤ A.l ∧ A.l ≤ 22
  s : 1 ≤ A.s ∧ A.s ≤ 24
  t : A.s ≤ A.t ∧ A.t ≤ 24
  ns : ∀ n ∈ A.ns, -11 ≤ n ∧ n ≤ 11 ∧ n ≠ 0
  nl : A.ns.length ≤ 4
  r : 1 ≤ A.r ∧ A.r ≤ 12
theorem sm_of {A : Alm} (h : okAlm A = true) : SmA A := by
  obtain ⟨a1, a2, a3, a4, a5, a6, a7⟩ := and7 h
  have a1 := isNum_le a1
  have a2 := isNum_le a2
  have a3 := isNum_le a3
  have a4 := isNum_le a4
  have a5 := isNum_le a5
  have a7 := isNum_le a7
  refine ⟨a1, by omega, by omega, by omega, by omega, fun n hn => ?_, okSets_len a6, a7⟩
  unfold okSets at a6
  rw [Bool.and_eq_true, Bool.and_eq_true] at a6
  have := List.all_eq_true.mp a6.2.1 n hn
  rw [Bool.and_eq_true] at this
  have b := isNum_le this.1
  have c : n ≠ 0 := by simpa using this.2
  omega
theorem join_len (x : Str) (ys : List Str) (b : Nat) (h : ∀ y ∈ ys, y.length ≤ b) : (ys.map (·.length)).sum ≤ ys.length * b := by
  induction ys with
  | nil => simp
  | cons y ys ih =>
    rw [List.map_cons, List.sum_cons, List.length_cons, Nat.succ_mul]
    have := h y List.mem_cons_self
    have := ih fun z hz => h z (List.mem_cons_of_mem _ hz)
    omega
theorem joinL_len (S : List Nat) (b : Nat) : ∀ (ps : List (List Nat)), (∀ p ∈ ps, p.length ≤ b) → (TL.joinL S ps).length ≤ ps.length * (b + S.length)
  | [], _ => by simp [TL.joinL]
  | [p], h => by
    have := h p List.mem_cons_self
    show p.length ≤ 1 * _
    omega
  | p :: q :: r, h => by
    have h1 := h p List.mem_cons_self
    have ih := joinL_len S b (q :: r) fun z hz => h z (List.mem_cons_of_mem _ hz)
    show (p ++ (S ++ TL.joinL S (q :: r))).length ≤ _
    rw [List.length_append, List.length_append, List.length_cons, Nat.succ_mul]
    omega
theorem txt_join_len (x : Str) (ys : List Str) (b : Nat) (h : ∀ y ∈ ys, y.length ≤ b) : (Txt.join x ys).length ≤ ys.length * (b + x.length) := by
  rw [TL.join_eq, TL.len_tl, TL.tl_join]
  have := joinL_len (TL.tl x) b (ys.map TL.tl) fun p hp => by
    obtain ⟨y, hy, rfl⟩ := List.mem_map.mp hp
    rw [← TL.len_tl]
    exact h y hy
  rw [List.length_map, ← TL.len_tl] at this
  exact this
theorem numS_40 {n : Int} (h : n.natAbs ≤ 1000000) : (numS n).length ≤ 40 := numS_len (Nat.lt_of_le_of_lt h (by decide))
theorem wordsOf_len {A : Alm} (s : SmA A) : (wordsOf A.ns).length ≤ 200 := by
  unfold wordsOf
  split
  · decide
  · have := txt_join_len " " (A.ns.map signedOf) 41 fun y hy => by
      obtain ⟨n, hn, rfl⟩ := List.mem_map.mp hy
      have := s.ns n hn
      exact signedOf_len (Nat.lt_of_le_of_lt (show n.natAbs ≤ 11 by omega) (by decide))
    rw [List.length_map] at this
    have h1 : (" " : Str).length = 1 := by decide
    rw [h1] at this
    have := s.nl
    have h2 : A.ns.length * (41 + 1) ≤ 4 * 42 := Nat.mul_le_mul_right 42 this
    omega
theorem lnA_len {A : Alm} (s : SmA A) : ∀ l ∈ lnA A, l.length ≤ 300 := by
  have := s.h
  have := s.f
  have := s.l
  have := s.s
  have := s.t
  have := s.r
  have n1 := numS_40 (n := A.h) (by omega)
  have n2 := numS_40 (n := A.f) (by omega)
  have n3 := numS_40 (n := A.l) (by omega)
  have n4 := numS_40 (n := A.s) (by omega)
  have n5 := numS_40 (n := A.t) (by omega)
  have n6 := numS_40 (n := A.r) (by omega)
  have n7 := wordsOf_len s
  intro l hl
  unfold lnA at hl
  simp only [List.mem_cons, List.not_mem_nil, or_false] at hl
  have k1 : ("day " : Str).length = 4 := by decide
  have k2 : ("window " : Str).length = 7 := by decide
  have k3 : (" to " : Str).length = 4 := by decide
  have k4 : ("woken " : Str).length = 6 := by decide
  have k5 : ("set " : Str).length = 4 := by decide
  have k6 : ("rest " : Str).length = 5 := by decide
  rcases hl with e | e | e | e | e <;> rw [e] <;> simp only [app_len] <;> omega
def RWritten (as : List Sl) (M : Mp) (o : Out) : Prop := ∃ A, okAlm A = true ∧ as = [.dat (aD A)] ∧ o = .rt (S (writtenOf A)) M
theorem sc_written : FnScope ["almanac", "hours", "first", "last", "soon", "late", "settings", "rest", "words", "setting", "lines", "line"] ["almanac"] (defScope s_written) := ⟨rfl, rfl, rfl, by decide +kernel, rfl, by decide +kernel, by decide +kernel⟩
theorem sum_join0 (ls : List Str) (b : Nat) (h : ∀ y ∈ ls, y.length ≤ b) (hb : ls.length * b ≤ 100000) : (ls.map (·.length)).sum + ls.length * ("" : Str).length ≤ 100000 := by
  have := join_len "" ls b h
  have e : ("" : Str).length = 0 := rfl
  rw [e, Nat.mul_zero]
  omega
theorem df_written {P : Program} {w : World} {c : Cg} {mg : Str → Option Value} {base : Heap} (T : Tq c mg base) : Df P w c mg base "written" 5 0 RWritten :=
  df_mk T.d_written sc_written (fun as M o ⟨_, _, h, _⟩ => by rw [h]; rfl) fun as M o hR f cdv A' outer s H E hr => by
    obtain ⟨A, hA, rfl, rfl⟩ := hR
    have sm := sm_of hA
    have := sm.h
    have := sm.f
    have := sm.l
    have := sm.s
    have := sm.t
    have := sm.r
    have := sm.nl
    have b30 : (1000000 : Nat) < 10 ^ 30 := by decide
    have n1 := numS_40 (n := A.h) (by omega)
    have n2 := numS_40 (n := A.f) (by omega)
    have n3 := numS_40 (n := A.l) (by omega)
    have n4 := numS_40 (n := A.s) (by omega)
    have n5 := numS_40 (n := A.t) (by omega)
    have n6 := numS_40 (n := A.r) (by omega)
    have n7 := wordsOf_len sm
    have k1 : ("day " : Str).length = 4 := by decide
    have k2 : ("window " : Str).length = 7 := by decide
    have k3 : (" to " : Str).length = 4 := by decide
    have k4 : ("woken " : Str).length = 6 := by decide
    have k5 : ("set " : Str).length = 4 := by decide
    have k6 : ("rest " : Str).length = 5 := by decide
    have sg : ∀ n ∈ A.ns, n.natAbs < 10 ^ 30 := fun n hn => by
      have := sm.ns n hn
      exact Nat.lt_of_le_of_lt (show n.natAbs ≤ 11 by omega) (by decide)
    refine ⟨_, ?_, .inl rfl⟩
    refine b_cons (s_expr (d_call (df_need_almanac T) hr (ds_cons (d_var 0) ds_nil) ⟨A, hA, rfl, rfl⟩)) ?_
    refine b_cons (s_asg (d_var 0) (g_tup (gs_cons (g_name 1 sc_written.nd) (gs_cons (g_name 2 sc_written.nd) (gs_cons (g_name 3 sc_written.nd) (gs_cons (g_name 4 sc_written.nd) (gs_cons (g_name 5 sc_written.nd) (gs_cons (g_name 6 sc_written.nd) (gs_cons (g_name 7 sc_written.nd) gs_nil))))))))) ?_
    refine b_cons (s_set (d := S (wordsOf A.ns)) 8 sc_written.nd (d_if (t_truth (d_var 6) (hl := sz_ok (by show (List.map _ _).length ≤ _; rw [List.length_map]; omega))) (fun k => ed_cast (d_join (ys := A.ns.map signedOf) d_str (ed_cast (d_lc (as := A.ns) (g := PyData.int) (own := [("setting", 9)]) (fun _ => true) (fun n => .str (signedOf n)) (fun n => _) [9] rfl (by rfl) sc_written.nd (blkOk_cx (by decide +kernel)) (i_tup (d_var 6)) (by decide) (by omega) (fun a ha s H C cl fp => (g_name 9 sc_written.nd)) (fun a ha s H C cl fp => ts_nil) (fun a ha hp s H C cl fp => (d_call (df_signed T) hr (ds_cons (d_var 9) ds_nil) ⟨a, sg a ha, rfl, rfl⟩))) ?_) ?_) ?_) (fun k => ed_cast d_str ?_))) ?_
    · rw [List.filter_eq_self.mpr (fun _ _ => rfl), List.map_map]
      rfl
    · have h1 := join_len " " (A.ns.map signedOf) 41 fun y hy => by
        obtain ⟨n, hn, rfl⟩ := List.mem_map.mp hy
        exact signedOf_len (sg n hn)
      have h2 : (" " : Str).length = 1 := by decide
      rw [h2, List.length_map] at *
      omega
    · rw [trT, isE_map] at k
      unfold wordsOf
      rw [if_neg (by rw [(Bool.not_eq_true' _).mp k]; exact nofun)]
    · rw [trT, isE_map] at k
      unfold wordsOf
      rw [if_pos ((Bool.not_eq_false' _).mp k)]
    refine b_lstaug 10 sc_written.nd (ds_cons (d_op d_str (d_typ (ds_cons (d_var 1) ds_nil) (y_strN (by omega)) T.b_str) (x_addS (by omega))) (ds_cons (d_op (d_op (d_op d_str (d_typ (ds_cons (d_var 2) ds_nil) (y_strN (by omega)) T.b_str) (x_addS (by omega))) d_str (x_addS (by rw [app_len]; omega))) (d_typ (ds_cons (d_var 3) ds_nil) (y_strN (by omega)) T.b_str) (x_addS (by rw [app_len, app_len]; omega))) ds_nil))
      (ds_cons (d_op (d_op (d_op d_str (d_typ (ds_cons (d_var 4) ds_nil) (y_strN (by omega)) T.b_str) (x_addS (by omega))) d_str (x_addS (by rw [app_len]; omega))) (d_typ (ds_cons (d_var 5) ds_nil) (y_strN (by omega)) T.b_str) (x_addS (by rw [app_len, app_len]; omega))) (ds_cons (d_op d_str (d_var 8) (x_addS (by omega))) (ds_cons (d_op d_str (d_typ (ds_cons (d_var 7) ds_nil) (y_strN (by omega)) T.b_str) (x_addS (by omega))) ds_nil)))
      ?_ (Nat.le_of_ble_eq_true rfl)
    have ll := lnA_len sm
    have nl1 : ("\n" : Str).length = 1 := by decide
    refine b_cons (s_ret (d_join (ys := (lnA A).map fun l => l ++ "\n") d_str (ed_cast (d_lc (as := lnA A) (g := PyData.str) (own := [("line", 11)]) (fun _ => true) (fun l => .str (l ++ "\n")) (fun l => _) [11] rfl (by rfl) sc_written.nd (blkOk_cx (by decide +kernel)) (i_lst (d_var 10)) (by decide) (Nat.le_of_ble_eq_true rfl) (fun a ha s H C cl fp => (g_name 11 sc_written.nd)) (fun a ha s H C cl fp => ts_nil) (fun a ha hp s H C cl fp => (d_op (d_var 11) d_str (x_addS (by have := ll a ha; omega))))) ?_) ?_)) rfl
    · rw [List.filter_eq_self.mpr (fun _ _ => rfl), List.map_map]
      rfl
    · exact sum_join0 _ 301 (fun y hy => by
        obtain ⟨l, hl, rfl⟩ := List.mem_map.mp hy
        rw [app_len]
        have := ll l hl
        omega) (by rw [List.length_map]; exact Nat.le_of_ble_eq_true rfl)
end Zd
end
/-! ## T17 -/
section
set_option Elab.async false
set_option linter.all false
set_option maxRecDepth 100000
set_option maxHeartbeats 4000000
/-! told. -/
namespace Zd
open PySem PySem.Spec PyProof.Rows L2
abbrev Row := Int × Int × Str
def rD (r : Row) : PyData := .tuple [.int r.1, .int r.2.1, .str r.2.2]
def srt (rs : List Row) : List Row := rs.mergeSort (PySem.W.dataLe false rD)
theorem srt_map (rs : List Row) : (rs.map rD).mergeSort (PySem.W.dataLe false id) = (srt rs).map rD := (List.map_mergeSort (f := rD) (l := rs) (fun a _ b _ => rfl)).symm
theorem rD_alike (rs : List Row) : PySem.W.AllAlike (rs.map rD) := PySem.W.AllAlike.of fun a b => by simp [rD, PySem.W.alike, PySem.W.alikeAll]
theorem rD_sortable (rs : List Row) : PySem.W.Sortable (rs.map rD) := PySem.W.Sortable.tuples fun a => ⟨_, _, rfl⟩
theorem rD_depth (rs : List Row) : ∀ d ∈ rs.map rD, d.depth ≤ 60 := fun d hd => by
  obtain ⟨r, _, rfl⟩ := List.mem_map.mp hd
  show PyData.depthAll [_, _, _] + 1 ≤ 60
  simp [PyData.depthAll, PyData.depth]
def rowsP (ws : List Int) (ps : List (Int × Int)) : List Row := (ps.map fun p => ((p.1, 0, "set " ++ signedOf p.2) : Row)) ++ ws.map fun w => ((w, 1, ("woken" : Str)) : Row)
def toldOf (ws : List Int) (ps : List (Int × Int)) : Str := Txt.join "" ((srt (rowsP ws ps)).map fun r => numS r.1 ++ " " ++ r.2.2 ++ "\n")
/-- a story of small numbers -/
structure SmS (ws : List Int) (ps : List (Int × Int)) : Prop where
  wl : ws.length ≤ 100
  pl : ps.length ≤ 200
  w : ∀ x ∈ ws, x.natAbs ≤ 1000000
  p : ∀ p ∈ ps, p.1.natAbs ≤ 1000000 ∧ p.2.natAbs ≤ 1000000
/-- what may be handed to told: no story; or two tuples -/
inductive ToD (A : Alm) (M : Mp) : PyData → Out → Prop
  | non : ToD A M .none (.ex .story M)
  | lst {xs : List PyData} : ToD A M (.list xs) (.ex .story M)
  | tup {xs : List PyData} (h : xs.length ≤ 1) : ToD A M (.tuple xs) (.ex .story M)
  | two {ws : List Int} {ps : List (Int × Int)} (h : SmS ws ps) : ToD A M (sD ws ps) (if okStory A ws ps = true then .rt (S (toldOf ws ps)) M else .ex .story M)
def RTold (as : List Sl) (M : Mp) (o : Out) : Prop := ∃ (A : Alm) (D : PyData), okAlm A = true ∧ ToD A M D o ∧ as = [.dat (aD A), .dat D]
theorem sc_told : FnScope ["almanac", "story", "wakings", "sets", "rows", "hour", "setting", "order", "word"] ["almanac", "story"] (defScope s_told) := ⟨rfl, rfl, rfl, by decide +kernel, rfl, by decide +kernel, by decide +kernel⟩
theorem srt_mem {rs : List Row} {r : Row} : r ∈ srt rs ↔ r ∈ rs := (List.mergeSort_perm _ _).mem_iff
theorem srt_len (rs : List Row) : (srt rs).length = rs.length := List.length_mergeSort _
theorem row_len {ws : List Int} {ps : List (Int × Int)} (s : SmS ws ps) : ∀ r ∈ rowsP ws ps, (numS r.1).length ≤ 40 ∧ r.2.2.length ≤ 50 := fun r hr => by
  unfold rowsP at hr
  rcases List.mem_append.mp hr with m | m
  · obtain ⟨p, hp, rfl⟩ := List.mem_map.mp m
    have := s.p p hp
    refine ⟨numS_40 this.1, ?_⟩
    show ("set " ++ signedOf p.2 : Str).length ≤ 50
    have h1 := signedOf_len (n := p.2) (Nat.lt_of_le_of_lt this.2 (by decide))
    have h2 : ("set " : Str).length = 4 := by decide
    rw [app_len]
    omega
  · obtain ⟨x, hx, rfl⟩ := List.mem_map.mp m
    exact ⟨numS_40 (s.w x hx), show ("woken" : Str).length ≤ 50 by decide⟩
theorem df_told {P : Program} {w : World} {c : Cg} {mg : Str → Option Value} {base : Heap} (T : Tq c mg base) : Df P w c mg base "told" 5 0 RTold :=
  df_mk T.d_told sc_told (fun as M o ⟨_, _, _, _, h⟩ => by rw [h]; rfl) fun as M o hR f cdv A' outer s H E hr => by
    obtain ⟨A, D, hA, hD, rfl⟩ := hR
    refine ⟨_, ?_, .inl rfl⟩
    refine b_cons (s_expr (d_call (df_need_almanac T) hr (ds_cons (d_var 0) ds_nil) ⟨A, hA, rfl, rfl⟩)) ?_
    cases hD with
    | non => exact b_hit (t_not (t_val (d_call (df_is_story T) hr (ds_cons (d_var 0) (ds_cons (d_var 1) ds_nil)) ⟨A, _, _, .non, rfl, rfl⟩))) (b_cons (s_raiseS rfl T.xS (takes_of rfl rfl rfl rfl)) rfl) (fun _ _ => nofun)
    | lst => exact b_hit (t_not (t_val (d_call (df_is_story T) hr (ds_cons (d_var 0) (ds_cons (d_var 1) ds_nil)) ⟨A, _, _, .lst, rfl, rfl⟩))) (b_cons (s_raiseS rfl T.xS (takes_of rfl rfl rfl rfl)) rfl) (fun _ _ => nofun)
    | tup h => exact b_hit (t_not (t_val (d_call (df_is_story T) hr (ds_cons (d_var 0) (ds_cons (d_var 1) ds_nil)) ⟨A, _, _, .tup h, rfl, rfl⟩))) (b_cons (s_raiseS rfl T.xS (takes_of rfl rfl rfl rfl)) rfl) (fun _ _ => nofun)
    | @two ws ps sm =>
      have swl := sm.wl
      have spl := sm.pl
      refine b_guard (k := !okStory A ws ps) (t_not (t_val (d_call (df_is_story T) hr (ds_cons (d_var 0) (ds_cons (d_var 1) ds_nil)) ⟨A, _, _, .two (by omega) (by omega), rfl, rfl⟩))) (fun k => ?_) (fun k => ?_) (fun k => ?_)
      · rw [if_neg (by rw [(Bool.not_eq_true' _).mp k]; exact nofun)]
        exact b_cons (s_raiseS rfl T.xS (takes_of rfl rfl rfl rfl)) rfl
      · rw [if_neg (by rw [(Bool.not_eq_true' _).mp k]; exact nofun)]
        exact fun _ _ => nofun
      rw [if_pos ((Bool.not_eq_false' _).mp k)]
      refine b_cons (s_asg (d_var 1) (g_tup (gs_cons (g_name 2 sc_told.nd) (gs_cons (g_name 3 sc_told.nd) gs_nil)))) ?_
      show PSs _ _ (tS c E [.dat (aD A), .dat (sD ws ps), .dat (.tuple (ws.map PyData.int)), .dat (psD ps), .no, .no, .no, .no, .no] M _)
      have b30 : (1000000 : Nat) < 10 ^ 30 := by decide
      refine b_cons (s_lc (d := .dat (.list ((ps.map fun p => ((p.1, 0, "set " ++ signedOf p.2) : Row)).map rD))) 4 (lc_cast (l_lc (as := ps) (g := prD) (own := [("hour", 5), ("setting", 6)]) (fun _ => true) (fun p => rD (p.1, 0, "set " ++ signedOf p.2)) (fun p => _) _ rfl (by rfl) sc_told.nd (blkOk_cx (by decide +kernel)) (i_tup (d_var 3)) (by decide) (by omega) (fun a ha s H C cl fp => (g_tup (gs_cons (g_name 5 sc_told.nd) (gs_cons (g_name 6 sc_told.nd) gs_nil)))) (fun a ha s H C cl fp => ts_nil)
        (fun a ha hp s H C cl fp => (d_tup (ds_cons (d_var 5) (ds_cons d_int (ds_cons (d_op d_str (d_call (df_signed T) hr (ds_cons (d_var 6) ds_nil) ⟨a.2, by have := sm.p a ha; omega, rfl, rfl⟩) (x_addS (by
          have := sm.p a ha
          have h1 := signedOf_len (n := a.2) (by omega)
          have h2 : ("set " : Str).length = 4 := by decide
          omega))) ds_nil)))))) ?_)) ?_
      · rw [List.filter_eq_self.mpr (fun _ _ => rfl), List.map_map]
        rfl
      have rl : (rowsP ws ps).length ≤ 300 := by
        unfold rowsP
        rw [List.length_append, List.length_map, List.length_map]
        omega
      refine b_cons (s_set (d := .dat (.list ((srt (rowsP ws ps)).map rD))) 4 sc_told.nd (ed_cast (d_sortD (es := (rowsP ws ps).map rD) (ed_cast (d_op (d_var 4) (ed_cast (d_lc (as := ws) (g := PyData.int) (own := [("hour", 5)]) (fun _ => true) (fun w => rD (w, 1, ("woken" : Str))) (fun p => _) [5] rfl (by rfl) sc_told.nd (blkOk_cx (by decide +kernel)) (i_tup (d_var 2)) (by decide) (by omega) (fun a ha s H C cl fp => (g_name 5 sc_told.nd)) (fun a ha s H C cl fp => ts_nil) (fun a ha hp s H C cl fp => (d_tup (ds_cons (d_var 5) (ds_cons d_int (ds_cons d_str ds_nil)))))) (by rw [List.filter_eq_self.mpr (fun _ _ => rfl)])) (x_catL (by rw [List.length_map, List.length_map, List.length_map]; omega))) ?_) (rD_alike _) (rD_sortable _) (by rw [List.length_map]; omega) (rD_depth _) hr T.b_sorted) (by rw [srt_map]))) ?_
      · unfold rowsP
        rw [List.map_append, List.map_map (g := rD) (f := fun w => ((w, 1, ("woken" : Str)) : Row))]
        rfl
      have rw_ : ∀ r ∈ srt (rowsP ws ps), (numS r.1).length ≤ 40 ∧ r.2.2.length ≤ 50 := fun r hr => row_len sm r (srt_mem.mp hr)
      have rn : ∀ r ∈ srt (rowsP ws ps), r.1.natAbs < 10 ^ 30 := fun r hr => by
        have hr := srt_mem.mp hr
        unfold rowsP at hr
        rcases List.mem_append.mp hr with m | m
        · obtain ⟨p, hp, rfl⟩ := List.mem_map.mp m
          have := sm.p p hp
          show p.1.natAbs < _
          omega
        · obtain ⟨x, hx, rfl⟩ := List.mem_map.mp m
          have := sm.w x hx
          show x.natAbs < _
          omega
      have sl : (srt (rowsP ws ps)).length ≤ 300 := by rw [srt_len]; exact rl
      have e1 : (" " : Str).length = 1 := by decide
      have e2 : ("\n" : Str).length = 1 := by decide
      refine b_cons (s_ret (d_join (ys := (srt (rowsP ws ps)).map fun r => numS r.1 ++ " " ++ r.2.2 ++ "\n") d_str (ed_cast (d_lc (as := srt (rowsP ws ps)) (g := rD) (own := [("hour", 5), ("order", 7), ("word", 8)]) (fun _ => true) (fun r => .str (numS r.1 ++ " " ++ r.2.2 ++ "\n")) (fun r => _) _ rfl (by rfl) sc_told.nd (blkOk_cx (by decide +kernel)) (i_lst (d_var 4)) (by decide) (by omega) (fun a ha s H C cl fp => (g_tup (gs_cons (g_name 5 sc_told.nd) (gs_cons (g_name 7 sc_told.nd) (gs_cons (g_name 8 sc_told.nd) gs_nil))))) (fun a ha s H C cl fp => ts_nil)
        (fun a ha hp s H C cl fp => (d_op (d_op (d_op (d_typ (ds_cons (d_var 5) ds_nil) (y_strN (rn a ha)) T.b_str) d_str (x_addS (by have := (rw_ a ha).1; omega))) (d_var 8) (x_addS (by have := rw_ a ha; rw [app_len]; omega))) d_str (x_addS (by have := rw_ a ha; rw [app_len, app_len]; omega))))) ?_) ?_)) rfl
      · rw [List.filter_eq_self.mpr (fun _ _ => rfl), List.map_map]
        rfl
      · exact sum_join0 _ 100 (fun y hy => by
          obtain ⟨r, hr, rfl⟩ := List.mem_map.mp hy
          have := rw_ r hr
          rw [app_len, app_len, app_len]
          omega) (by rw [List.length_map]; omega)
end Zd
end
/-! ## L0 -/
section
set_option Elab.async false
set_option linter.all false
set_option maxRecDepth 100000
set_option maxHeartbeats 4000000
/-! The law's draws: _law_taken, _law_pick; _law_signed. -/
namespace Zd
open PySem PySem.Spec PyProof.Rows L2
/-- the draw row at r, over the script at sc -/
structure Rw where
  r : Addr
  sc : Addr
  ns : List Int
  M0 : Mp
def ScrM (ns : List Int) (m : MO) : Prop := (∃ ob, m = .frz ob (ns.map V.int)) ∨ m = .lst (ns.map fun n => .dat (.int n))
/-- the script is known: it is told by M, or by the written part -/
def ScrAt (c : Cg) (M : Mp) (sc : Addr) (ns : List Int) : Prop := (∃ m, M sc = some m ∧ ScrM ns m) ∨ ∀ H : Hp, SqL c.K H sc (ns.map V.int)
structure RwOk (c : Cg) (R : Rw) : Prop where
  ok : (R.sc ≠ R.r ∧ ∃ m, R.M0 R.sc = some m ∧ ScrM R.ns m) ∨ ∀ H : Hp, SqL c.K H R.sc (R.ns.map V.int)
theorem slvs_ints {B : Hp} : ∀ {ns : List Int} {us : List V}, SlVs B (ns.map fun n => Sl.dat (.int n)) us → us = ns.map V.int
  | [], _, h => by cases h; rfl
  | n :: ns, _, h => by
    cases h with
    | cons a t =>
      cases a
      rw [slvs_ints t]
      rfl
structure Ds where
  p : Int
  s : Int
  k : Int
def Rw.l (R : Rw) (t : Ds) : List Sl := [.raw (.ref R.sc), I t.p, I t.s, I t.k]
def Rw.m (R : Rw) (t : Ds) : Mp := updM R.M0 R.r (.lst (R.l t))
theorem Rw.row (R : Rw) (t : Ds) : R.m t R.r = some (.lst (R.l t)) := updM_same
theorem Rw.scr {c : Cg} {R : Rw} (h : RwOk c R) (t : Ds) : ScrAt c (R.m t) R.sc R.ns := by
  rcases h.ok with ⟨ne, m, e, sm⟩ | k
  · refine .inl ⟨m, ?_, sm⟩
    unfold Rw.m
    rw [updM_ne ne]
    exact e
  · exact .inr k
theorem ScrAt.at {c : Cg} {B H : Hp} {M : Mp} {sc : Addr} {ns : List Int} (h : ScrAt c M sc ns) (w : Wd c B M H) : SqL c.K H sc (ns.map V.int) := by
  rcases h with ⟨m, e, sm⟩ | k
  · obtain ⟨u, mr, hu⟩ := w.m sc _ e
    rcases sm with ⟨ob, rfl⟩ | rfl
    · cases mr
      exact .inl (.inr ⟨_, hu⟩)
    · cases mr with
      | lst sv =>
        rw [slvs_ints sv] at hu
        exact .inl (.inl hu)
  · exact k H
section
variable {X : Cx} {c : Cg} {E : XK} {ds : List Sl} {M M1 M2 : Mp} {a b e : Expr} {d : Sl} {pos : Pos}
theorem d_ixF {sc : Addr} {ns : List Int} {i n : Int} (ha : PE X a (tD c ds M (.raw (.ref sc)) M1)) (hb : PE X b (tD c ds M1 (I i) M2)) (hr : ScrAt c M2 sc ns) (hi : atI ns i = some n) (hs : PlainIx b := by exact fun _ _ => rfl) (hK : X.K = c.K := by rfl) : PE X (.Subscript a b pos) (tD c ds M (I n) M2) := by
  refine PE.to (pe_ix ix_list ha hb hs) fun σ H Q ⟨B, w, s, q⟩ => ⟨B, w, s, fun x B1 H1 g1 s1 => ⟨B1, g1.w, s.mono g1.b, fun y B2 H2 g2 s2 => ?_⟩⟩
  cases s2
  obtain rfl : x = .ref sc := s1
  refine ⟨sc, ns.map V.int, i, .int n, rfl, rfl, by rw [hK]; exact hr.at g2.w, ?_, q _ B2 H2 (g1.trans g2) (.int n)⟩
  unfold atI at hi ⊢
  rw [List.length_map]
  cases q : ixN ns.length i with
  | none => rw [q] at hi; cases hi
  | some j =>
    rw [q] at hi
    have hi : ns[j]? = some n := hi
    show (ns.map V.int)[j]? = some (.int n)
    rw [List.getElem?_map, hi]
    rfl
theorem d_lenF {sc : Addr} {ns : List Int} {p : Pos} (ha : PE X a (tD c ds M (.raw (.ref sc)) M1)) (hr : ScrAt c M1 sc ns) (hm : X.mg "len" = none) (hg : Gl X "len" := by rfl)
    (he : starEach [a] X.env = (false, eval a X.env) :: starEach [] X.env := by rfl) (hK : X.K = c.K := by rfl) : PE X (.Call (.Name "len" p) [a] [] pos) (tD c ds M (I (ns.length : Nat)) M1) := by
  have ha2 := ds_cons ha (ds_nil (M := M1)) he
  refine PE.to (pe_callB call_len hg hm (by decide +kernel) ha2 (by decide) (by decide) he rfl) fun σ H Q ⟨B, w, s, q⟩ => ⟨B, w, s, fun vs B1 H1 g1 s1 => ?_⟩
  cases s1 with
  | @cons _ _ x _ s1 s2 =>
    cases s2
    obtain rfl : x = .ref sc := s1
    exact ⟨_, ns.length, rfl, .inl ⟨ns.map V.int, by rw [hK]; exact hr.at g1.w, (List.length_map _).symm⟩, q _ B1 H1 g1 (.int _)⟩
theorem s_row {R : Rw} {t t' : Ds} {i : Int} {j : Nat} {p' : Pos} (h : PE X e (tD c ds (R.m t) d (R.m t))) (ha : PE X a (tD c ds (R.m t) (.raw (.ref R.r)) (R.m t))) (hb : PE X b (tD c ds (R.m t) (I i) (R.m t))) (hj : ixN 4 i = some j) (hx : (R.l t).set j d = R.l t')
    (hsub : ∀ v, assign (.Subscript a b p') X.env v = (do
      let ov ← holding [v] (eval a X.env)
      let iv ← holding [v, ov] (eval b X.env)
      standAt p'
      holding [v, ov, iv] (setItem ov iv v)
      release [v, ov, iv] []) := by intro _; rfl)
    (hs : swapsWithSole [.Subscript a b p'] e pos.line X.env = pure false := by rfl) (hw : swappedStores [.Subscript a b p'] e X.env = pure none := by rfl) (h1 : (assignEach [.Subscript a b p'] X.env).map (·.2) = [assign (.Subscript a b p') X.env] := by rfl) :
    PS X (.Assign [.Subscript a b p'] e pos) (tS c E ds (R.m t) (.nx ds (R.m t'))) := by
  have z := s_setM (E := E) (pos := pos) (p' := p') h ha hb (R.row t) (j := j) hj hsub hs hw h1
  have q : updM (R.m t) R.r (.lst ((R.l t).set j d)) = R.m t' := by unfold Rw.m; rw [updM_updM, hx]
  rw [q] at z
  exact z
end
/-- what a draw gives, and what it leaves -/
def tk (ns : List Int) (t : Ds) (m : Int) : Int × Ds :=
  if 0 < t.k then (t.k % m, { t with k := t.k / m })
  else if (ns.length : Int) < t.p + 1 then ((t.s * 48271 + 11) % 2147483647 / 7 % m, { p := t.p + 1, s := (t.s * 48271 + 11) % 2147483647, k := t.k })
  else ((ns.getD t.p.toNat 0) % m, { p := t.p + 1, s := (t.s * 48271 + ns.getD t.p.toNat 0 + 11) % 2147483647, k := if 10 ^ 18 ≤ ns.getD t.p.toNat 0 then ns.getD t.p.toNat 0 / m else t.k })
theorem tk_lo {ns : List Int} {t : Ds} {m : Int} (h : 0 < m) : 0 ≤ (tk ns t m).1 := by
  unfold tk
  split
  · exact Int.emod_nonneg _ (by omega)
  · split <;> exact Int.emod_nonneg _ (by omega)
theorem tk_hi {ns : List Int} {t : Ds} {m : Int} (h : 0 < m) : (tk ns t m).1 < m := by
  unfold tk
  split
  · exact Int.emod_lt_of_pos _ h
  · split <;> exact Int.emod_lt_of_pos _ h
theorem tk_p {ns : List Int} {t : Ds} {m : Int} (h : 0 ≤ t.p) : 0 ≤ (tk ns t m).2.p := by
  unfold tk
  split
  · exact h
  · split <;> (show 0 ≤ t.p + 1; omega)
def RTaken (c : Cg) (as : List Sl) (M : Mp) (o : Out) : Prop := ∃ (R : Rw) (t : Ds) (m : Int), RwOk c R ∧ 0 ≤ t.p ∧ 0 < m ∧ m < 100000 ∧ as = [.raw (.ref R.r), I m] ∧ M = R.m t ∧ o = .rt (I (tk R.ns t m).1) (R.m (tk R.ns t m).2)
theorem sc_law_taken : FnScope ["_law_row", "_law_many", "_law_found", "_law_cell"] ["_law_row", "_law_many"] (defScope s_law_taken) := ⟨rfl, rfl, rfl, by decide +kernel, rfl, by decide +kernel, by decide +kernel⟩
theorem df_law_taken {P : Program} {w : World} {c : Cg} {mg : Str → Option Value} {base : Heap} (T : Tq c mg base) : Df P w c mg base "_law_taken" 1 0 (RTaken c) :=
  df_mk T.d_law_taken sc_law_taken (fun as M o ⟨_, _, _, _, _, _, _, h, _⟩ => by rw [h]; rfl) fun as M o hR f cdv A outer s H E hr => by
    obtain ⟨R, t, m, ok, hp, hm, hm2, rfl, rfl, rfl⟩ := hR
    refine ⟨_, ?_, .inl rfl⟩
    obtain ⟨p, v, k⟩ := t
    have hp : 0 ≤ p := hp
    refine b_guard (t_cmp (d_ixM (d_var 0) d_int (R.row _) rfl) d_int x_gt) (fun h => ?_) (fun _ _ _ => nofun) (fun h => ?_)
    · have h := of_decide_eq_true h
      refine b_cast (b_cons (s_set 2 sc_law_taken.nd (d_op (d_typ (ds_cons (d_ixM (d_var 0) d_int (R.row _) rfl) ds_nil) y_intI T.b_int) (d_var 1) (x_mod hm)))
        (b_cons (s_row (t' := ⟨p, v, k / m⟩) (d_op (d_ixM (d_var 0) d_int (R.row _) rfl) (d_var 1) (x_div ⟨hm, by omega⟩)) (d_var 0) d_int rfl rfl)
        (b_cons (s_ret (d_var 2)) rfl))) ?_
      unfold tk
      rw [if_pos h]
    · have h := of_decide_eq_false h
      refine b_cons (s_row (t' := ⟨p + 1, v, k⟩) (d_op (d_ixM (d_var 0) d_int (R.row _) rfl) d_int x_add) (d_var 0) d_int rfl rfl) ?_
      refine b_guard (t_cmp (d_ixM (d_var 0) d_int (R.row _) rfl) (d_lenF (d_ixM (d_var 0) d_int (R.row _) rfl) (Rw.scr ok _) T.b_len) x_gt) (fun h2 => ?_) (fun _ _ _ => nofun) (fun h2 => ?_)
      · have h2 := of_decide_eq_true h2
        refine b_cast (b_cons (s_row (t' := ⟨p + 1, (v * 48271 + 11) % 2147483647, k⟩) (d_op (d_typ (ds_cons (d_op (d_op (d_ixM (d_var 0) d_int (R.row _) rfl) d_int (x_mul (.inr (by omega)))) d_int x_add) ds_nil) y_intI T.b_int) d_int (x_mod (by omega))) (d_var 0) d_int rfl rfl)
          (b_cons (s_ret (d_op (d_typ (ds_cons (d_op (d_ixM (d_var 0) d_int (R.row _) rfl) d_int (x_div ⟨by omega, by omega⟩)) ds_nil) y_intI T.b_int) (d_var 1) (x_mod hm))) rfl)) ?_
        unfold tk
        rw [if_neg h, if_pos h2]
      · have h2 := of_decide_eq_false h2
        have h2 : ¬ ((R.ns.length : Nat) : Int) < p + 1 := h2
        have lt : p.toNat < R.ns.length := by omega
        have ai : atI R.ns (p + 1 - 1) = some (R.ns.getD p.toNat 0) := by
          rw [show p + 1 - 1 = ((p.toNat : Nat) : Int) by omega]
          refine L2.atI_nat ?_
          rw [List.getD_eq_getElem?_getD, List.getElem?_eq_getElem lt]
          rfl
        refine b_cons (s_set 3 sc_law_taken.nd (d_ixF (d_ixM (d_var 0) d_int (R.row _) rfl) (d_op (d_ixM (d_var 0) d_int (R.row _) rfl) d_int x_sub) (Rw.scr ok _) ai)) ?_
        refine b_cons (s_row (t' := ⟨p + 1, (v * 48271 + R.ns.getD p.toNat 0 + 11) % 2147483647, k⟩) (d_op (d_typ (ds_cons (d_op (d_op (d_op (d_ixM (d_var 0) d_int (R.row _) rfl) d_int (x_mul (.inr (by omega)))) (d_var 3) x_add) d_int x_add) ds_nil) y_intI T.b_int) d_int (x_mod (by omega))) (d_var 0) d_int rfl rfl) ?_
        have e : (Out.rt (I (tk R.ns ⟨p, v, k⟩ m).1) (R.m (tk R.ns ⟨p, v, k⟩ m).2)) = .rt (I (R.ns.getD p.toNat 0 % m)) (R.m ⟨p + 1, (v * 48271 + R.ns.getD p.toNat 0 + 11) % 2147483647, if 10 ^ 18 ≤ R.ns.getD p.toNat 0 then R.ns.getD p.toNat 0 / m else k⟩) := by
          unfold tk
          rw [if_neg h, if_neg h2]
        rw [e]
        refine b_if (t_cmp (d_var 3) (d_op d_int d_int (x_pow ⟨by omega, by omega, by omega⟩)) x_ge) (fun h3 => ⟨_, b_cons (s_row (t' := ⟨p + 1, (v * 48271 + R.ns.getD p.toNat 0 + 11) % 2147483647, R.ns.getD p.toNat 0 / m⟩) (d_op (d_var 3) (d_var 1) (x_div ⟨hm, by omega⟩)) (d_var 0) d_int rfl rfl) b_nil, ?_⟩) (fun h3 => ⟨_, b_nil, ?_⟩)
        · have h3 := of_decide_eq_true h3
          have h3 : (10 : Int) ^ 18 ≤ R.ns.getD p.toNat 0 := h3
          rw [if_pos h3]
          exact b_cons (s_ret (d_op (d_typ (ds_cons (d_var 3) ds_nil) y_intI T.b_int) (d_var 1) (x_mod hm))) rfl
        · have h3 := of_decide_eq_false h3
          have h3 : ¬ (10 : Int) ^ 18 ≤ R.ns.getD p.toNat 0 := h3
          rw [if_neg h3]
          exact b_cons (s_ret (d_op (d_typ (ds_cons (d_var 3) ds_nil) y_intI T.b_int) (d_var 1) (x_mod hm))) rfl
/-- pick: the drawn place -/
def RPick (c : Cg) (as : List Sl) (M : Mp) (o : Out) : Prop := ∃ (R : Rw) (t : Ds) (xs : List PyData), RwOk c R ∧ 0 ≤ t.p ∧ xs ≠ [] ∧ xs.length < 100000 ∧ as = [.raw (.ref R.r), .dat (.list xs)] ∧ M = R.m t ∧ o = .rt (.dat (xs.getD (tk R.ns t xs.length).1.toNat .none)) (R.m (tk R.ns t xs.length).2)
theorem sc_law_pick : FnScope ["_law_row", "_law_things"] ["_law_row", "_law_things"] (defScope s_law_pick) := ⟨rfl, rfl, rfl, by decide +kernel, rfl, by decide +kernel, by decide +kernel⟩
theorem atI_d {l : List PyData} {i : Int} (h0 : 0 ≤ i) (h1 : i < l.length) : atI l i = some (l.getD i.toNat .none) := by
  rw [show i = ((i.toNat : Nat) : Int) by omega]
  refine L2.atI_nat ?_
  rw [Int.toNat_natCast, List.getD_eq_getElem?_getD, List.getElem?_eq_getElem (show i.toNat < l.length by omega)]
  rfl
theorem df_law_pick {P : Program} {w : World} {c : Cg} {mg : Str → Option Value} {base : Heap} (T : Tq c mg base) : Df P w c mg base "_law_pick" 2 0 (RPick c) :=
  df_mk T.d_law_pick sc_law_pick (fun as M o ⟨_, _, _, _, _, _, _, h, _⟩ => by rw [h]; rfl) fun as M o hR f cdv A outer s H E hr => by
    obtain ⟨R, t, xs, ok, hp, hx, hl, rfl, rfl, rfl⟩ := hR
    have l0 : 0 < xs.length := List.length_pos_iff.mpr hx
    refine ⟨_, b_cons (s_ret (d_ix (d_var 1) (d_call (df_law_taken T) hr (ds_cons (d_var 0) (ds_cons (d_blt (ds_cons (d_var 1) ds_nil) (y_len (D := .list xs) (by show xs.length ≤ _; omega)) T.b_len) ds_nil)) ⟨R, t, _, ok, hp, by show (0 : Int) < (xs.length : Nat); omega, by show ((xs.length : Nat) : Int) < 100000; omega, rfl, rfl, rfl⟩) (x_ixL (atI_d (tk_lo (by show (0 : Int) < (xs.length : Nat); omega)) (tk_hi (by show (0 : Int) < (xs.length : Nat); omega)))))) rfl, .inl rfl⟩
/-- the law's word of a setting -/
theorem ofS_app (a b : String) : Str.ofString (a ++ b) = Str.ofString a ++ Str.ofString b := by
  apply TL.ext_tl
  rw [TL.tl_append, TL.tl_ofString, TL.tl_ofString, TL.tl_ofString, String.toList_append, List.map_append]
theorem law_word {n : Int} (h : n ≠ 0) : (if 0 < n then ("+" : Str) ++ Str.ofString (toString n) else Str.ofString (toString n)) = signedOf n := by
  unfold signedOf numS
  by_cases p : 0 < n
  · rw [if_pos p, if_pos p, if_neg (by omega)]
  · rw [if_neg p, if_neg p, if_pos (by omega), toString_neg (by omega), ofS_app, show (0 : Int) - n = -n by omega]
def RLawSigned (as : List Sl) (M : Mp) (o : Out) : Prop := ∃ n : Int, n ≠ 0 ∧ n.natAbs < 100000 ∧ as = [I n] ∧ o = .rt (S (signedOf n)) M
theorem sc_law_signed : FnScope ["_law_number_here"] ["_law_number_here"] (defScope s_law_signed) := ⟨rfl, rfl, rfl, by decide +kernel, rfl, by decide +kernel, by decide +kernel⟩
theorem df_law_signed {P : Program} {w : World} {c : Cg} {mg : Str → Option Value} {base : Heap} (T : Tq c mg base) : Df P w c mg base "_law_signed" 1 0 RLawSigned :=
  df_mk T.d_law_signed sc_law_signed (fun as M o ⟨_, _, _, h, _⟩ => by rw [h]; rfl) fun as M o hR f cdv A outer s H E hr => by
    obtain ⟨n, hz, hn, rfl, rfl⟩ := hR
    have lg : n.natAbs < 10 ^ 30 := Nat.lt_of_lt_of_le hn (by decide)
    have l40 : (numS n).length ≤ 40 := numS_len lg
    refine ⟨_, b_cons (s_ret (d_if (t_cmp (d_var 0) d_int x_gt) (fun h => ed_cast (d_op d_str (d_typ (ds_cons (d_var 0) ds_nil) (y_strN lg) T.b_str) (x_addS ?_)) (by rw [← law_word hz, if_pos (of_decide_eq_true h)]; rfl)) (fun h => ed_cast (d_typ (ds_cons (d_var 0) ds_nil) (y_strN lg) T.b_str) (by rw [← law_word hz, if_neg (of_decide_eq_false h)]; rfl)))) rfl, .inl rfl⟩
    show 1 + (numS n).length ≤ 100000
    omega
end Zd
end
/-! ## L1 -/
section
set_option Elab.async false
set_option linter.all false
set_option maxRecDepth 100000
set_option maxHeartbeats 4000000
/-! _law_almanac. -/
namespace Zd
open PySem PySem.Spec PyProof.Rows L2
section
variable {X : Cx} {c : Cg} {ds : List Sl} {M : Mp} {tg iter : Expr} {pos : Pos}
theorem d_lcN {elt : Expr} {ifs : List Expr} {scope : Scope} {own : List (Str × Nat)} (es : List PyData) (n : Nat) (Mi : Nat → Mp) (acc : Nat → List PyData) (p : Nat → Bool) (v : Nat → PyData) (T : Nat → List Sl) (is : List Nat)
    (hn0 : es.length = n) (hc : X.calm = true) (hN : X.N.Nodup) (ok : BlkOk X.N X.env.scope scope own)
    (hi : PI X tg iter (tI c ds M es (Mi 0))) (h0 : acc 0 = []) (his : ∀ i ∈ is, i ∈ own.map (·.2)) (hl : es.length ≤ 90000)
    (hg : ∀ (i : Nat) (D : PyData), es[i]? = some D → ∀ (s : Shared) (H : Hp) (C : Addr) (cl : List (Str × Addr)) (fp : List Addr), PG (X.blk s H scope (compEnvC scope cl C X.env) fp) tg (gD c (wipeS ds (own.map (·.2))) (Mi i) (.dat D) (T i) is))
    (ht : ∀ (i : Nat) (D : PyData), es[i]? = some D → ∀ (s : Shared) (H : Hp) (C : Addr) (cl : List (Str × Addr)) (fp : List Addr), PTs (X.blk s H scope (compEnvC scope cl C X.env) fp) ifs (tDT c (T i) (Mi i) (p i) (Mi i)))
    (he : ∀ (i : Nat) (D : PyData), es[i]? = some D → p i = true → ∀ (s : Shared) (H : Hp) (C : Addr) (cl : List (Str × Addr)) (fp : List Addr), PE (X.blk s H scope (compEnvC scope cl C X.env) fp) elt (tD c (T i) (Mi i) (.dat (v i)) (Mi (i + 1))))
    (hn : ∀ (i : Nat) (D : PyData), es[i]? = some D → p i = false → Mi (i + 1) = Mi i)
    (ha : ∀ (i : Nat) (D : PyData), es[i]? = some D → acc (i + 1) = if p i = true then acc i ++ [v i] else acc i)
    (hs : ∀ x, foldedSetIterable iter X.env x = pure x := by intro _; rfl) :
    PE X (.ListComp elt [⟨tg, iter, ifs, 0⟩] scope pos) (tD c ds M (.dat (.list (acc n))) (Mi n)) := by
  subst hn0
  exact d_lcG es Mi acc p v T is hc hN ok hi h0 his hl hg ht he hn ha hs
end
/-- what stands behind i draws -/
def drT (ns : List Int) (m : Int) (t : Ds) : Nat → Ds
  | 0 => t
  | i + 1 => (tk ns (drT ns m t i) m).2
def drV (ns : List Int) (m : Int) (t : Ds) (i : Nat) : Int := (tk ns (drT ns m t i) m).1
theorem drT_p {ns : List Int} {m : Int} {t : Ds} (h : 0 ≤ t.p) : ∀ i, 0 ≤ (drT ns m t i).p
  | 0 => h
  | i + 1 => tk_p (drT_p h i)
structure DrA where
  A : Alm
  t : Ds
def drA (ns : List Int) (t : Ds) : DrA :=
  let a := tk ns t 6
  let h := 2 + a.1
  let b := tk ns a.2 h
  let c := tk ns b.2 h
  let d := tk ns c.2 3
  let n := tk ns d.2 4
  let e := drT ns (2 * h - 1) n.2 n.1.toNat
  let g := tk ns e 3
  let q := tk ns g.2 5
  ⟨⟨h, b.1, b.1 + c.1, 1 + d.1, 1 + d.1 + g.1, sortU (((List.range n.1.toNat).map fun i => drV ns (2 * h - 1) n.2 i + 1 - h).filter fun x => !decide (x = 0)), 1 + q.1⟩, q.2⟩
def RLawAlmanac (c : Cg) (as : List Sl) (M : Mp) (o : Out) : Prop := ∃ (R : Rw) (t : Ds), RwOk c R ∧ 0 ≤ t.p ∧ as = [.raw (.ref R.r)] ∧ M = R.m t ∧ o = .rt (.dat (aD (drA R.ns t).A)) (R.m (drA R.ns t).t)
theorem sc_law_almanac : FnScope ["_law_row", "_law_hours", "_law_first", "_law_last", "_law_soon", "_law_settings", "_law_one_here", "_law_k"] ["_law_row"] (defScope s_law_almanac) := ⟨rfl, rfl, rfl, by decide +kernel, rfl, by decide +kernel, by decide +kernel⟩
theorem df_law_almanac {P : Program} {w : World} {c : Cg} {mg : Str → Option Value} {base : Heap} (T : Tq c mg base) : Df P w c mg base "_law_almanac" 2 0 (RLawAlmanac c) :=
  df_mk T.d_law_almanac sc_law_almanac (fun as M o ⟨_, _, _, _, h, _⟩ => by rw [h]; rfl) fun as M o hR f cdv A outer s H E hr => by
    obtain ⟨R, t, ok, hp, rfl, rfl, rfl⟩ := hR
    refine ⟨_, ?_, .inl rfl⟩
    have pa := tk_p (ns := R.ns) (m := 6) hp
    have a0 := tk_lo (ns := R.ns) (t := t) (m := 6) (by omega)
    have a1 := tk_hi (ns := R.ns) (t := t) (m := 6) (by omega)
    refine b_cons (s_set 1 sc_law_almanac.nd (d_op d_int (d_call (df_law_taken T) hr (ds_cons (d_var 0) (ds_cons d_int ds_nil)) ⟨R, t, 6, ok, hp, by omega, by omega, rfl, rfl, rfl⟩) x_add)) ?_
    generalize ea : tk R.ns t 6 = a at *
    have hh : 0 < 2 + a.1 ∧ 2 + a.1 < 100000 := by omega
    have pb := tk_p (ns := R.ns) (m := 2 + a.1) pa
    refine b_cons (s_set 2 sc_law_almanac.nd (d_call (df_law_taken T) hr (ds_cons (d_var 0) (ds_cons (d_var 1) ds_nil)) ⟨R, a.2, 2 + a.1, ok, pa, hh.1, hh.2, rfl, rfl, rfl⟩)) ?_
    generalize eb : tk R.ns a.2 (2 + a.1) = b at *
    have pc := tk_p (ns := R.ns) (m := 2 + a.1) pb
    have pd := tk_p (ns := R.ns) (m := 3) pc
    refine b_cons (s_par 3 4 sc_law_almanac.nd (ds_cons (d_op (d_var 2) (d_call (df_law_taken T) hr (ds_cons (d_var 0) (ds_cons (d_var 1) ds_nil)) ⟨R, b.2, 2 + a.1, ok, pb, hh.1, hh.2, rfl, rfl, rfl⟩) x_add) (ds_cons (d_op d_int (d_call (df_law_taken T) hr (ds_cons (d_var 0) (ds_cons d_int ds_nil)) ⟨R, _, 3, ok, pc, by omega, by omega, rfl, rfl, rfl⟩) x_add) ds_nil))) ?_
    generalize ec : tk R.ns b.2 (2 + a.1) = cc at *
    generalize ed : tk R.ns cc.2 3 = d at *
    have pn := tk_p (ns := R.ns) (m := 4) pd
    have n0 := tk_lo (ns := R.ns) (t := d.2) (m := 4) (by omega)
    have n1 := tk_hi (ns := R.ns) (t := d.2) (m := 4) (by omega)
    have ln : ∀ n : Nat, n < 4 → (((List.range n).map fun i => drV R.ns (2 * (2 + a.1) - 1) (tk R.ns d.2 4).2 i + 1 - (2 + a.1)).filter fun x => !decide (x = 0)).length < 60 := fun n hn => Nat.lt_of_le_of_lt (List.length_filter_le _ _) (by rw [List.length_map, List.length_range]; omega)
    refine b_cons (s_set 5 sc_law_almanac.nd (d_typ (ds_cons (d_sortSetL (ns := ((List.range (tk R.ns d.2 4).1.toNat).map fun i => drV R.ns (2 * (2 + a.1) - 1) (tk R.ns d.2 4).2 i + 1 - (2 + a.1)).filter fun x => !decide (x = 0)) (M1 := R.m (drT R.ns (2 * (2 + a.1) - 1) (tk R.ns d.2 4).2 (tk R.ns d.2 4).1.toNat)) ?_ (ln _ (by omega)) T.b_sorted T.b_set) ds_nil) y_tupL T.b_tuple)) ?_
    · refine (d_lc (M1 := R.m (drT R.ns (2 * (2 + a.1) - 1) (tk R.ns d.2 4).2 (tk R.ns d.2 4).1.toNat)) (as := (List.range (tk R.ns d.2 4).1.toNat).map fun i => drV R.ns (2 * (2 + a.1) - 1) (tk R.ns d.2 4).2 i + 1 - (2 + a.1)) (g := PyData.int) (own := [("_law_one_here", 6)]) (fun x => !decide (x = 0)) PyData.int (fun p => _) [6] rfl (by rfl) sc_law_almanac.nd (blkOk_cx (by decide +kernel))
        (i_lst ?_) (by decide) (by rw [List.length_map, List.length_range]; omega) (fun a ha s H C cl fp => (g_name 6 sc_law_almanac.nd)) (fun a ha s H C cl fp => (ts_one (t_cmp (d_var 6) d_int x_neI))) (fun a ha hp s H C cl fp => (d_var 6)))
      refine ed_cast (d := .dat (.list ((List.range (tk R.ns d.2 4).1.toNat).map fun j => .int (drV R.ns (2 * (2 + a.1) - 1) (tk R.ns d.2 4).2 j + 1 - (2 + a.1))))) ?_ (by rw [List.map_map]; rfl)
      refine d_lcN (own := [("_law_k", 7)]) (rngD 0 (tk R.ns d.2 4).1.toNat) (tk R.ns d.2 4).1.toNat (fun i => R.m (drT R.ns (2 * (2 + a.1) - 1) (tk R.ns d.2 4).2 i)) (fun i => (List.range i).map fun j => .int (drV R.ns (2 * (2 + a.1) - 1) (tk R.ns d.2 4).2 j + 1 - (2 + a.1))) (fun _ => true) (fun j => .int (drV R.ns (2 * (2 + a.1) - 1) (tk R.ns d.2 4).2 j + 1 - (2 + a.1))) (fun i => [.raw (.ref R.r), I (2 + a.1), I b.1, I (b.1 + cc.1), I (1 + d.1), .no, .no, .dat (.int (0 + (i : Nat)))]) [7] rngD_len (by rfl) sc_law_almanac.nd (blkOk_cx (by decide +kernel))
        (i_rng1 (d_call (df_law_taken T) hr (ds_cons (d_var 0) (ds_cons d_int ds_nil)) ⟨R, d.2, 4, ok, pd, by omega, by omega, rfl, rfl, rfl⟩) (by omega) T.b_range) rfl (by decide) (by rw [rngD_len]; omega) (fun i D hD s H C cl fp => by obtain ⟨_, rfl⟩ := rngD_get hD; exact g_name 7 sc_law_almanac.nd) (fun i D hD s H C cl fp => ts_nil) (fun i D hD hp s H C cl fp => (d_op (d_op (d_call (df_law_taken T) hr (ds_cons (d_var 0) (ds_cons (d_op (d_op d_int (d_var 1) (x_mul (.inl (by omega)))) d_int x_sub) ds_nil)) ⟨R, _, _, ok, drT_p pn i, by omega, by omega, rfl, rfl, rfl⟩) d_int x_add) (d_var 1) x_sub)) (fun i D hD z => by cases z) (fun i D hD => by rw [if_pos rfl, List.range_succ, List.map_append]; rfl)
    · have pe := drT_p (ns := R.ns) (m := 2 * (2 + a.1) - 1) pn (tk R.ns d.2 4).1.toNat
      have pg := tk_p (ns := R.ns) (m := 3) pe
      refine b_cast (b_cons (s_ret (d_tup (ds_cons (d_var 1) (ds_cons (d_var 2) (ds_cons (d_var 3) (ds_cons (d_var 4) (ds_cons (d_op (d_var 4) (d_call (df_law_taken T) hr (ds_cons (d_var 0) (ds_cons d_int ds_nil)) ⟨R, _, 3, ok, pe, by omega, by omega, rfl, rfl, rfl⟩) x_add) (ds_cons (d_var 5) (ds_cons (d_op d_int (d_call (df_law_taken T) hr (ds_cons (d_var 0) (ds_cons d_int ds_nil)) ⟨R, _, 5, ok, pg, by omega, by omega, rfl, rfl, rfl⟩) x_add) ds_nil))))))))) rfl) ?_
      unfold drA
      rw [ea]
      dsimp only
      rw [eb, ec, ed]
      rfl
theorem insU_len (k : Int) : ∀ l : List Int, (insU k l).length ≤ l.length + 1
  | [] => Nat.le_refl _
  | a :: l => by
    unfold insU
    split
    · exact Nat.le_refl _
    · split
      · exact Nat.le_succ _
      · exact Nat.succ_le_succ (insU_len k l)
theorem sortU_len : ∀ l : List Int, (sortU l).length ≤ l.length
  | [] => Nat.le_refl _
  | a :: l => by
    unfold sortU
    have := insU_len a (sortU l)
    have := sortU_len l
    rw [List.length_cons]
    omega
theorem isNum_of {i lo hi : Int} (h1 : lo ≤ i) (h2 : i ≤ hi) : isNum (some i) lo hi = true := by
  show (decide (lo ≤ i) && decide (i ≤ hi)) = true
  rw [decide_eq_true h1, decide_eq_true h2]
  rfl
structure DrOk (ns : List Int) (t : Ds) : Prop where
  ok : okAlm (drA ns t).A = true
  p : 0 ≤ (drA ns t).t.p
  l : (drA ns t).A.ns.length ≤ 3
theorem okA {h f l s u r : Int} {n : Nat} {v : Nat → Int} (h1 : 2 ≤ h ∧ h ≤ 7) (f1 : 0 ≤ f ∧ f < h) (l1 : 0 ≤ l ∧ l < h) (s1 : 0 ≤ s ∧ s < 3) (u1 : 0 ≤ u ∧ u < 3) (r1 : 0 ≤ r ∧ r < 5) (hn : n ≤ 3) (hv : ∀ i, 0 ≤ v i ∧ v i < 2 * h - 1) :
    okAlm ⟨h, f, f + l, 1 + s, 1 + s + u, sortU (((List.range n).map fun i => v i + 1 - h).filter fun x => !decide (x = 0)), 1 + r⟩ = true ∧ (sortU (((List.range n).map fun i => v i + 1 - h).filter fun x => !decide (x = 0))).length ≤ 3 := by
  have len : (sortU (((List.range n).map fun i => v i + 1 - h).filter fun x => !decide (x = 0))).length ≤ 3 := Nat.le_trans (sortU_len _) (Nat.le_trans (List.length_filter_le _ _) (by rw [List.length_map, List.length_range]; exact hn))
  refine ⟨?_, len⟩
  unfold okAlm
  simp only [Bool.and_eq_true]
  refine ⟨isNum_of h1.1 (by omega), isNum_of f1.1 (by omega), isNum_of (by omega) (by omega), isNum_of (by omega) (by omega), isNum_of (by omega) (by omega), ?_, isNum_of (by omega) (by omega)⟩
  unfold okSets
  simp only [Bool.and_eq_true]
  refine ⟨decide_eq_true (Nat.le_trans len (by omega)), ?_, ?_⟩
  · rw [List.all_eq_true]
    intro x hx
    rw [sortU_mem, List.mem_filter] at hx
    obtain ⟨i, _, rfl⟩ := List.mem_map.mp hx.1
    have := hv i
    rw [Bool.and_eq_true]
    refine ⟨isNum_of (by omega) (by omega), ?_⟩
    simpa using hx.2
  · exact (zip_lt _).mpr (sortU_lt _)
theorem drA_ok {ns : List Int} {t : Ds} (h : 0 ≤ t.p) : DrOk ns t := by
  have a0 := tk_lo (ns := ns) (t := t) (m := 6) (by omega)
  have a1 := tk_hi (ns := ns) (t := t) (m := 6) (by omega)
  have hh : 0 < 2 + (tk ns t 6).1 := by omega
  have z : okAlm (drA ns t).A = true ∧ (drA ns t).A.ns.length ≤ 3 := okA (h := 2 + (tk ns t 6).1) (v := drV ns (2 * (2 + (tk ns t 6).1) - 1) (tk ns (tk ns (tk ns (tk ns (tk ns t 6).2 (2 + (tk ns t 6).1)).2 (2 + (tk ns t 6).1)).2 3).2 4).2) (n := (tk ns (tk ns (tk ns (tk ns (tk ns t 6).2 (2 + (tk ns t 6).1)).2 (2 + (tk ns t 6).1)).2 3).2 4).1.toNat) ⟨by omega, by omega⟩ ⟨tk_lo hh, tk_hi hh⟩ ⟨tk_lo hh, tk_hi hh⟩ ⟨tk_lo (m := 3) (by omega), tk_hi (m := 3) (by omega)⟩ ⟨tk_lo (m := 3) (by omega), tk_hi (m := 3) (by omega)⟩ ⟨tk_lo (m := 5) (by omega), tk_hi (m := 5) (by omega)⟩
    (by have h1 := tk_lo (ns := ns) (t := (tk ns (tk ns (tk ns (tk ns t 6).2 (2 + (tk ns t 6).1)).2 (2 + (tk ns t 6).1)).2 3).2) (m := 4) (by omega)
        have h2 := tk_hi (ns := ns) (t := (tk ns (tk ns (tk ns (tk ns t 6).2 (2 + (tk ns t 6).1)).2 (2 + (tk ns t 6).1)).2 3).2) (m := 4) (by omega)
        omega) (fun i => ⟨tk_lo (by omega), tk_hi (by omega)⟩)
  exact ⟨z.1, tk_p (tk_p (drT_p (tk_p (tk_p (tk_p (tk_p (tk_p h))))) _)), z.2⟩
end Zd
end
/-! ## L2 -/
section
set_option Elab.async false
set_option linter.all false
set_option maxRecDepth 100000
set_option maxHeartbeats 4000000
/-! _law_story. -/
namespace Zd
open PySem PySem.Spec PyProof.Rows L2
section
variable {X : Cx} {c : Cg} {E : XK} {ds : List Sl} {M : Mp} {tg iter : Expr} {body : List Stmt} {pos : Pos}
/-- a loop that runs to its end -/
theorem s_loop (n : Nat) (es : List PyData) (Si : Nat → List Sl) (Mi : Nat → Mp) (T : Nat → List Sl) (is : List Nat) (hn : es.length = n)
    (hp : PassesOwn (model X.prog X.w) X.A X.env X.xe) (hc : X.calm = true) (hi : PI X tg iter (tI c ds M es (Mi 0))) (hS : Si 0 = ds)
    (hg : ∀ (i : Nat) (D : PyData), es[i]? = some D → PG X tg (gD c (Si i) (Mi i) (.dat D) (T i) is))
    (hb : ∀ (i : Nat) (D : PyData), es[i]? = some D → PSs X body (tS c E (T i) (Mi i) (.nx (Si (i + 1)) (Mi (i + 1)))))
    (hs : ∀ x, foldedSetIterable iter X.env x = pure x := by intro _; rfl) : PS X (.For tg iter body [] pos) (tS c E ds M (.nx (Si n) (Mi n))) := by
  subst hn
  exact s_for es Si Mi T is (fun i => .nx (Si (i + 1)) (Mi (i + 1))) (fun _ => True) hp hc hi hS trivial (fun i D _ e => hg i D e) (fun i D _ e => hb i D e) (fun i D _ e => .inl ⟨rfl, trivial⟩) (fun _ => rfl) hs
end
/-- a drawn story under way; ev: its rows in their order -/
structure Sg where
  t : Ds
  ws : List Int
  ps : List (Int × Int)
  hr : Int
  fr : Int
  ev : List Row
def stI (A : Alm) (ns : List Int) (s : Sg) (a : Int) : Sg :=
  if (decide (s.fr ≤ a) && !A.ns.isEmpty) = true then
    (if (tk ns s.t 3).1 = 0 then { s with t := (tk ns (tk ns s.t 3).2 A.ns.length).2, ps := s.ps ++ [(a, A.ns.getD (tk ns (tk ns s.t 3).2 A.ns.length).1.toNat 0)], fr := a + A.r, ev := s.ev ++ [(a, 0, "set " ++ signedOf (A.ns.getD (tk ns (tk ns s.t 3).2 A.ns.length).1.toNat 0))] }
      else { s with t := (tk ns s.t 3).2 })
  else s
def stJ (A : Alm) (ns : List Int) (s : Sg) : Nat → Sg
  | 0 => s
  | j + 1 => stI A ns (stJ A ns s j) (s.hr + 1 + (j : Nat))
def gapOf (A : Alm) (ns : List Int) (s : Sg) : Int := A.s + (tk ns s.t (A.t - A.s + 1)).1
def stG (A : Alm) (ns : List Int) (s : Sg) : Sg := { s with t := (tk ns s.t (A.t - A.s + 1)).2 }
def stE (A : Alm) (ns : List Int) (s : Sg) : Sg := stJ A ns (stG A ns s) (gapOf A ns s).toNat
def stO2 (A : Alm) (ns : List Int) (s : Sg) : Sg :=
  { stE A ns s with hr := s.hr + gapOf A ns s, ws := (stE A ns s).ws ++ [s.hr + gapOf A ns s], ev := (stE A ns s).ev ++ [(s.hr + gapOf A ns s, 1, ("woken" : Str))] }
def stN (A : Alm) (ns : List Int) (s : Sg) : Nat → Sg
  | 0 => s
  | i + 1 => stO2 A ns (stN A ns s i)
def sg0 (t : Ds) : Sg := ⟨t, [0], [], 0, 1, [(0, 1, ("woken" : Str))]⟩
def drS (A : Alm) (ns : List Int) (t : Ds) (m : Int) : Sg := stN A ns (sg0 (tk ns t m).2) (tk ns t m).1.toNat
theorem stI_p {A : Alm} {ns : List Int} {s : Sg} {a : Int} (h : 0 ≤ s.t.p) : 0 ≤ (stI A ns s a).t.p := by
  unfold stI
  split
  · split
    · exact tk_p (tk_p h)
    · exact tk_p h
  · exact h
theorem stI_hr {A : Alm} {ns : List Int} {s : Sg} {a : Int} : (stI A ns s a).hr = s.hr := by
  unfold stI
  split
  · split <;> rfl
  · rfl
theorem stI_ws {A : Alm} {ns : List Int} {s : Sg} {a : Int} : (stI A ns s a).ws = s.ws := by
  unfold stI
  split
  · split <;> rfl
  · rfl
theorem stI_pl {A : Alm} {ns : List Int} {s : Sg} {a : Int} : (stI A ns s a).ps.length ≤ s.ps.length + 1 := by
  unfold stI
  split
  · split
    · show (s.ps ++ [_]).length ≤ _
      rw [List.length_append, List.length_singleton]
      exact Nat.le_refl _
    · exact Nat.le_succ _
  · exact Nat.le_succ _
structure SgB (k j : Nat) (s : Sg) : Prop where
  p : 0 ≤ s.t.p
  h0 : 0 ≤ s.hr
  h1 : s.hr ≤ 24 * (k : Nat)
  w : s.ws.length = k + 1
  l : s.ps.length ≤ 24 * k + j
theorem stJ_b {A : Alm} {ns : List Int} {s : Sg} {k : Nat} (h : SgB k 0 s) : ∀ j, SgB k j (stJ A ns s j) ∧ (stJ A ns s j).hr = s.hr ∧ (stJ A ns s j).ws = s.ws
  | 0 => ⟨h, rfl, rfl⟩
  | j + 1 => by
    obtain ⟨b, e, e2⟩ := stJ_b h j
    show SgB k (j + 1) (stI A ns (stJ A ns s j) _) ∧ (stI A ns (stJ A ns s j) _).hr = _ ∧ (stI A ns (stJ A ns s j) _).ws = _
    refine ⟨⟨stI_p b.p, by rw [stI_hr]; exact b.h0, by rw [stI_hr]; exact b.h1, by rw [stI_ws]; exact b.w, ?_⟩, by rw [stI_hr, e], by rw [stI_ws, e2]⟩
    have := stI_pl (A := A) (ns := ns) (s := stJ A ns s j) (a := s.hr + 1 + (j : Nat))
    have := b.l
    omega
theorem gap_b {A : Alm} {ns : List Int} {s : Sg} (sm : SmA A) : 1 ≤ gapOf A ns s ∧ A.s ≤ gapOf A ns s ∧ gapOf A ns s ≤ A.t ∧ gapOf A ns s ≤ 24 := by
  have h1 := sm.s
  have h2 := sm.t
  have a := tk_lo (ns := ns) (t := s.t) (m := A.t - A.s + 1) (by omega)
  have b := tk_hi (ns := ns) (t := s.t) (m := A.t - A.s + 1) (by omega)
  unfold gapOf
  omega
theorem stG_b {A : Alm} {ns : List Int} {s : Sg} {k : Nat} (h : SgB k 0 s) : SgB k 0 (stG A ns s) := ⟨tk_p h.p, h.h0, h.h1, h.w, h.l⟩
theorem stO2_b {A : Alm} {ns : List Int} {s : Sg} {k : Nat} (sm : SmA A) (h : SgB k 0 s) : SgB (k + 1) 0 (stO2 A ns s) := by
  have g := gap_b (ns := ns) (s := s) sm
  obtain ⟨b, e, e2⟩ := stJ_b (A := A) (ns := ns) (stG_b (A := A) (ns := ns) h) (gapOf A ns s).toNat
  have h0 := h.h0
  have h1 := h.h1
  refine ⟨b.p, ?_, ?_, ?_, ?_⟩
  · show 0 ≤ s.hr + gapOf A ns s
    omega
  · show s.hr + gapOf A ns s ≤ _
    omega
  · show ((stE A ns s).ws ++ [_]).length = _
    rw [List.length_append, List.length_singleton]
    exact congrArg (· + 1) b.w
  · have := b.l
    show (stE A ns s).ps.length ≤ _
    have : (stE A ns s).ps.length ≤ 24 * k + (gapOf A ns s).toNat := this
    omega
theorem stN_b {A : Alm} {ns : List Int} {t : Ds} (sm : SmA A) (h : 0 ≤ t.p) : ∀ i, SgB i 0 (stN A ns (sg0 t) i)
  | 0 => ⟨h, Int.le_refl 0, Int.le_refl 0, rfl, Nat.le_refl 0⟩
  | i + 1 => stO2_b sm (stN_b sm h i)
def RLawStory (c : Cg) (as : List Sl) (M : Mp) (o : Out) : Prop := ∃ (R : Rw) (t : Ds) (A : Alm) (m : Int), RwOk c R ∧ 0 ≤ t.p ∧ SmA A ∧ 0 < m ∧ m ≤ 9 ∧ as = [.raw (.ref R.r), .dat (aD A), I m] ∧ M = R.m t ∧ o = .rt (.dat (sD (drS A R.ns t m).ws (drS A R.ns t m).ps)) (R.m (drS A R.ns t m).t)
theorem sc_law_story : FnScope ["_law_row", "_law_almanac_here", "_law_most", "_law_wakings", "_law_sets", "_law_hour", "_law_free", "_law_turn", "_law_gap", "_law_at"] ["_law_row", "_law_almanac_here", "_law_most"] (defScope s_law_story) := ⟨rfl, rfl, rfl, by decide +kernel, rfl, by decide +kernel, by decide +kernel⟩
theorem ints_get {ns : List Int} {i : Nat} (h : i < ns.length) : (ns.map PyData.int).getD i .none = .int (ns.getD i 0) := by
  rw [List.getD_eq_getElem?_getD, List.getElem?_map, List.getD_eq_getElem?_getD, List.getElem?_eq_getElem h]
  rfl
theorem df_law_story {P : Program} {w : World} {c : Cg} {mg : Str → Option Value} {base : Heap} (T : Tq c mg base) : Df P w c mg base "_law_story" 3 0 (RLawStory c) :=
  df_mk T.d_law_story sc_law_story (fun as M o ⟨_, _, _, _, _, _, _, _, _, h, _⟩ => by rw [h]; rfl) fun as M o hR f cdv A' outer s H E hr => by
    obtain ⟨R, t, A, m, ok, hp, sm, hm, hm9, rfl, rfl, rfl⟩ := hR
    refine ⟨_, ?_, .inl rfl⟩
    refine b_cons (s_asg (d_tup (ds_cons (d_tup (ds_cons d_int ds_nil)) (ds_cons (d_tup ds_nil) (ds_cons d_int (ds_cons d_int ds_nil))))) (g_tup (gs_cons (g_name 3 sc_law_story.nd) (gs_cons (g_name 4 sc_law_story.nd) (gs_cons (g_name 5 sc_law_story.nd) (gs_cons (g_name 6 sc_law_story.nd) gs_nil)))))) ?_
    have tlo := tk_lo (ns := R.ns) (t := t) (m := m) hm
    have thi := tk_hi (ns := R.ns) (t := t) (m := m) hm
    have tp := tk_p (ns := R.ns) (m := m) hp
    have nb := fun i => stN_b (A := A) (ns := R.ns) sm tp i
    refine b_cons (s_loop (tk R.ns t m).1.toNat (rngD 0 (tk R.ns t m).1.toNat)
      (fun i => [.raw (.ref R.r), .dat (aD A), I m, .dat (.tuple ((stN A R.ns (sg0 (tk R.ns t m).2) i).ws.map PyData.int)), .dat (psD (stN A R.ns (sg0 (tk R.ns t m).2) i).ps), I (stN A R.ns (sg0 (tk R.ns t m).2) i).hr, I (stN A R.ns (sg0 (tk R.ns t m).2) i).fr, .no, .no, .no])
      (fun i => R.m (stN A R.ns (sg0 (tk R.ns t m).2) i).t)
      (fun i => [.raw (.ref R.r), .dat (aD A), I m, .dat (.tuple ((stN A R.ns (sg0 (tk R.ns t m).2) i).ws.map PyData.int)), .dat (psD (stN A R.ns (sg0 (tk R.ns t m).2) i).ps), I (stN A R.ns (sg0 (tk R.ns t m).2) i).hr, I (stN A R.ns (sg0 (tk R.ns t m).2) i).fr, I (0 + (i : Nat)), .no, .no])
      _ rngD_len (passes_of rfl) rfl (i_rng1 (d_call (df_law_taken T) hr (ds_cons (d_var 0) (ds_cons (d_var 2) ds_nil)) ⟨R, t, m, ok, hp, hm, by omega, rfl, rfl, rfl⟩) (by omega) T.b_range) rfl (fun i D hD => by obtain ⟨_, rfl⟩ := rngD_get hD; exact g_name 7 sc_law_story.nd) (fun i D hD => ?_)) ?_
    · have hi : i < 9 := by have := (rngD_get hD).1; omega
      have b := nb i
      show PSs _ _ (tS c E _ _ (.nx [.raw (.ref R.r), .dat (aD A), I m, .dat (.tuple ((stO2 A R.ns (stN A R.ns (sg0 (tk R.ns t m).2) i)).ws.map PyData.int)), .dat (psD (stO2 A R.ns (stN A R.ns (sg0 (tk R.ns t m).2) i)).ps), I (stO2 A R.ns (stN A R.ns (sg0 (tk R.ns t m).2) i)).hr, I (stO2 A R.ns (stN A R.ns (sg0 (tk R.ns t m).2) i)).fr, .no, .no, .no] (R.m (stO2 A R.ns (stN A R.ns (sg0 (tk R.ns t m).2) i)).t)))
      generalize stN A R.ns (sg0 (tk R.ns t m).2) i = g at b ⊢
      have gb := gap_b (ns := R.ns) (s := g) sm
      have s1 := sm.s
      have s2 := sm.t
      have b0 := b.h0
      have b1 := b.h1
      have bw := b.w
      refine b_cons (s_set 8 sc_law_story.nd (d_op (d_ix (d_var 1) d_int (x_ixT rfl)) (d_call (df_law_taken T) hr (ds_cons (d_var 0) (ds_cons (d_op (d_op (d_ix (d_var 1) d_int (x_ixT rfl)) (d_ix (d_var 1) d_int (x_ixT rfl)) x_sub) d_int x_add) ds_nil)) ⟨R, g.t, A.t - A.s + 1, ok, b.p, by omega, by omega, rfl, rfl, rfl⟩) x_add)) ?_
      refine b_pre (ds1 := [.raw (.ref R.r), .dat (aD A), I m, .dat (.tuple (g.ws.map PyData.int)), .dat (psD g.ps), I g.hr, I g.fr, .no, I (gapOf A R.ns g), .no]) (by repeat (first | exact Wk.nil | apply Wk.keep | apply Wk.drop)) ?_
      refine b_cons (s_loop (gapOf A R.ns g).toNat (rngD (g.hr + 1) (g.hr + gapOf A R.ns g + 1 - (g.hr + 1)).toNat)
        (fun j => [.raw (.ref R.r), .dat (aD A), I m, .dat (.tuple ((stJ A R.ns (stG A R.ns g) j).ws.map PyData.int)), .dat (psD (stJ A R.ns (stG A R.ns g) j).ps), I (stJ A R.ns (stG A R.ns g) j).hr, I (stJ A R.ns (stG A R.ns g) j).fr, .no, I (gapOf A R.ns g), .no])
        (fun j => R.m (stJ A R.ns (stG A R.ns g) j).t)
        (fun j => [.raw (.ref R.r), .dat (aD A), I m, .dat (.tuple ((stJ A R.ns (stG A R.ns g) j).ws.map PyData.int)), .dat (psD (stJ A R.ns (stG A R.ns g) j).ps), I (stJ A R.ns (stG A R.ns g) j).hr, I (stJ A R.ns (stG A R.ns g) j).fr, .no, I (gapOf A R.ns g), I (g.hr + 1 + (j : Nat))])
        _ (by rw [rngD_len]; congr 1; omega) (passes_of rfl) rfl (i_rng2 (d_op (d_var 5) d_int x_add) (d_op (d_op (d_var 5) (d_var 8) x_add) d_int x_add) (by show -1000000 ≤ g.hr + gapOf A R.ns g + 1 ∧ _; omega) T.b_range) rfl (fun j D hD => by obtain ⟨_, rfl⟩ := rngD_get hD; exact g_name 9 sc_law_story.nd) (fun j D hD => ?_)) ?_
      · obtain ⟨bj, eh, ew⟩ := stJ_b (A := A) (ns := R.ns) (stG_b (A := A) (ns := R.ns) b) j
        have jl := (rngD_get hD).1
        show PSs _ _ (tS c E _ _ (.nx [.raw (.ref R.r), .dat (aD A), I m, .dat (.tuple ((stI A R.ns (stJ A R.ns (stG A R.ns g) j) (g.hr + 1 + (j : Nat))).ws.map PyData.int)), .dat (psD (stI A R.ns (stJ A R.ns (stG A R.ns g) j) (g.hr + 1 + (j : Nat))).ps), I (stI A R.ns (stJ A R.ns (stG A R.ns g) j) (g.hr + 1 + (j : Nat))).hr, I (stI A R.ns (stJ A R.ns (stG A R.ns g) j) (g.hr + 1 + (j : Nat))).fr, .no, I (gapOf A R.ns g), .no] (R.m (stI A R.ns (stJ A R.ns (stG A R.ns g) j) (g.hr + 1 + (j : Nat))).t)))
        generalize stJ A R.ns (stG A R.ns g) j = q at bj ⊢
        generalize hat : g.hr + 1 + (j : Nat) = at_ at *
        have bl := bj.l
        by_cases h1 : q.fr ≤ at_
        · cases h2 : A.ns.isEmpty with
          | true =>
            have e : stI A R.ns q at_ = q := by unfold stI; rw [h2, Bool.not_true, Bool.and_false, if_neg Bool.false_ne_true]
            rw [e]
            refine b_weak (b_skip ?_ b_nil)
            refine et_cast (t_w (w_and (k' := false) (M2 := R.m q.t) (t_cmp (d_var 9) (d_var 6) x_ge) (fun _ => ?_))) (by rw [Bool.and_false])
            refine w_and (k := false) (k' := false) (et_cast (t_cmp (d_ix (d_var 1) d_int (x_ixT rfl)) (d_tup ds_nil) (x_neNilT hr (layF_ints (n := 0)))) (by rw [isE_map, h2]; rfl)) (fun z => by cases z)
          | false =>
            have ne : A.ns ≠ [] := fun z => by rw [z] at h2; cases h2
            have l0 : 0 < A.ns.length := List.length_pos_iff.mpr ne
            have l4 := sm.nl
            have dp := tk_p (ns := R.ns) (m := 3) bj.p
            have cnd : (decide (q.fr ≤ at_) && !A.ns.isEmpty) = true := by rw [h2, decide_eq_true h1]; rfl
            by_cases h3 : (tk R.ns q.t 3).1 = 0
            · have e : stI A R.ns q at_ = { q with t := (tk R.ns (tk R.ns q.t 3).2 A.ns.length).2, ps := q.ps ++ [(at_, A.ns.getD (tk R.ns (tk R.ns q.t 3).2 A.ns.length).1.toNat 0)], fr := at_ + A.r, ev := q.ev ++ [(at_, 0, "set " ++ signedOf (A.ns.getD (tk R.ns (tk R.ns q.t 3).2 A.ns.length).1.toNat 0))] } := by
                unfold stI
                rw [if_pos cnd, if_pos h3]
              rw [e]
              have pk : RPick c [.raw (.ref R.r), .dat (.list (A.ns.map PyData.int))] (R.m (tk R.ns q.t 3).2) (.rt (I (A.ns.getD (tk R.ns (tk R.ns q.t 3).2 A.ns.length).1.toNat 0)) (R.m (tk R.ns (tk R.ns q.t 3).2 A.ns.length).2)) := by
                refine ⟨R, (tk R.ns q.t 3).2, A.ns.map PyData.int, ok, dp, by simpa using ne, by rw [List.length_map]; omega, rfl, rfl, ?_⟩
                rw [List.length_map, ints_get]
                have d1 := tk_lo (ns := R.ns) (t := (tk R.ns q.t 3).2) (m := (A.ns.length : Nat)) (by omega)
                have d2 := tk_hi (ns := R.ns) (t := (tk R.ns q.t 3).2) (m := (A.ns.length : Nat)) (by omega)
                omega
              refine b_if (k := true) (M1 := R.m (tk R.ns q.t 3).2) ?_ (fun _ => ⟨_, b_cons (s_par 4 6 sc_law_story.nd (ds_cons (ed_cast (d1 := .dat (psD (q.ps ++ [(at_, A.ns.getD (tk R.ns (tk R.ns q.t 3).2 A.ns.length).1.toNat 0)]))) (d_op (d_var 4) (d_tup (ds_cons (d_tup (ds_cons (d_var 9) (ds_cons (d_call (df_law_pick T) hr (ds_cons (d_var 0) (ds_cons (d_typ (ds_cons (d_ix (d_var 1) d_int (x_ixT rfl)) ds_nil) y_lstT T.b_list) ds_nil)) pk) ds_nil))) ds_nil)) (x_catT ?_)) ?_) (ds_cons (d_op (d_var 9) (d_ix (d_var 1) d_int (x_ixT rfl)) x_add) ds_nil))) b_nil, ?_⟩) (fun z => by cases z)
              · refine et_cast (t_w (w_and (t_cmp (d_var 9) (d_var 6) x_ge) (fun _ => w_and (t_cmp (d_ix (d_var 1) d_int (x_ixT rfl)) (d_tup ds_nil) (x_neNilT hr (layF_ints (n := 0)))) (fun _ => w_and1 (t_cmp (d_call (df_law_taken T) hr (ds_cons (d_var 0) (ds_cons d_int ds_nil)) ⟨R, q.t, 3, ok, bj.p, by omega, by omega, rfl, rfl, rfl⟩) d_int x_eqI)) (fun z => by rw [isE_map, h2] at z; cases z)) (fun z => absurd h1 (of_decide_eq_false z)))) ?_
                rw [decide_eq_true h3, decide_eq_true h1, isE_map, h2]
                rfl
              · show (q.ps.map prD).length + 1 ≤ 100000
                rw [List.length_map]
                omega
              · show Sl.dat (.tuple (q.ps.map prD ++ [_])) = .dat (.tuple ((q.ps ++ [_]).map prD))
                rw [List.map_append]
                rfl
              · exact b_weak b_nil
            · have e : stI A R.ns q at_ = { q with t := (tk R.ns q.t 3).2 } := by unfold stI; rw [if_pos cnd, if_neg h3]
              rw [e]
              refine b_weak (b_skip (et_cast (t_w (w_and (t_cmp (d_var 9) (d_var 6) x_ge) (fun _ => w_and (t_cmp (d_ix (d_var 1) d_int (x_ixT rfl)) (d_tup ds_nil) (x_neNilT hr (layF_ints (n := 0)))) (fun _ => w_and1 (t_cmp (d_call (df_law_taken T) hr (ds_cons (d_var 0) (ds_cons d_int ds_nil)) ⟨R, q.t, 3, ok, bj.p, by omega, by omega, rfl, rfl, rfl⟩) d_int x_eqI)) (fun z => by rw [isE_map, h2] at z; cases z)) (fun z => absurd h1 (of_decide_eq_false z)))) ?_) b_nil)
              rw [decide_eq_false h3, Bool.and_false, Bool.and_false]
        · have e : stI A R.ns q at_ = q := by unfold stI; rw [decide_eq_false h1, Bool.false_and, if_neg Bool.false_ne_true]
          rw [e]
          refine b_weak (b_skip (et_cast (t_w (w_and (k' := false) (t_cmp (d_var 9) (d_var 6) x_ge) (fun z => absurd (of_decide_eq_true z) h1))) (by rw [Bool.and_false])) b_nil)
      · obtain ⟨bj, eh, ew⟩ := stJ_b (A := A) (ns := R.ns) (stG_b (A := A) (ns := R.ns) b) (gapOf A R.ns g).toNat
        refine b_cons (s_set 5 sc_law_story.nd (d_op (d_var 5) (d_var 8) x_add)) ?_
        have bl : (stE A R.ns g).ws.length = i + 1 := bj.w
        have eh : (stE A R.ns g).hr = g.hr := eh
        refine b_weak (b_cons (s_set (d := .dat (.tuple (((stE A R.ns g).ws ++ [g.hr + gapOf A R.ns g]).map PyData.int))) 3 sc_law_story.nd (ed_cast (d_op (d_var 3) (d_tup (ds_cons (d_var 5) ds_nil)) (x_catT ?_)) ?_)) b_nil) ?_
        · show ((stE A R.ns g).ws.map PyData.int).length + 1 ≤ 100000
          rw [List.length_map]
          omega
        · show Sl.dat (.tuple ((stE A R.ns g).ws.map PyData.int ++ [.int ((stE A R.ns g).hr + gapOf A R.ns g)])) = _
          rw [List.map_append, eh]
          rfl
        · show Wk [.raw (.ref R.r), .dat (aD A), I m, _, _, I ((stE A R.ns g).hr + gapOf A R.ns g), _, _, _, _] _
          rw [eh]
          repeat (first | exact Wk.nil | apply Wk.keep | apply Wk.drop)
    · exact b_cons (s_ret (d_tup (ds_cons (d_var 3) (ds_cons (d_var 4) ds_nil)))) rfl
end Zd
end
/-! ## P4 -/
section
set_option Elab.async false
set_option linter.all false
set_option maxRecDepth 100000
set_option maxHeartbeats 4000000
/-! Plain laws: texts made of lines. -/
namespace Zd
open PySem PySem.Spec PyProof.Rows L2
theorem joinL_nil : ∀ ps : List (List Nat), TL.joinL [] ps = ps.flatten
  | [] => rfl
  | [p] => by simp [TL.joinL]
  | p :: q :: r => by
    show p ++ ([] ++ TL.joinL [] (q :: r)) = _
    rw [List.nil_append, joinL_nil (q :: r), List.flatten_cons (l := p)]
theorem joinL_nl : ∀ ps : List (List Nat), TL.joinL [10] (ps ++ [[]]) = (ps.map fun p => p ++ [10]).flatten
  | [] => rfl
  | [p] => by simp [TL.joinL]
  | p :: q :: r => by
    show p ++ ([10] ++ TL.joinL [10] (q :: r ++ [[]])) = _
    rw [joinL_nl (q :: r), List.map_cons (a := p), List.flatten_cons (l := p ++ [10]), List.append_assoc]
theorem nj_tl (ls : List Str) : TL.tl (joinNl ls) = (ls.map fun l => TL.tl l ++ [10]).flatten := by
  unfold joinNl
  rw [TL.join_eq, TL.tl_join, show TL.tl ("" : Str) = [] from rfl, joinL_nil, List.map_map]
  congr 1
  apply List.map_congr_left
  intro l _
  show TL.tl (l ++ ("\n" : Str)) = _
  rw [TL.tl_append]
  rfl
theorem nj_eq (ls : List Str) : joinNl ls = Txt.join "\n" (ls ++ [("" : Str)]) := by
  apply TL.ext_tl
  rw [nj_tl, TL.join_eq, TL.tl_join, show TL.tl ("\n" : Str) = [10] from nl10, List.map_append]
  show _ = TL.joinL [10] (ls.map TL.tl ++ [[]])
  rw [joinL_nl, List.map_map]
  rfl
def noNl (l : Str) : Prop := 10 ∉ TL.tl l
theorem nls_nj {ls : List Str} (h : ∀ l ∈ ls, noNl l) : nls (joinNl ls) = ls ++ [("" : Str)] := by
  rw [nj_eq]
  unfold nls
  exact TL.split_join (s := 10) (S := []) nl10 (by decide +kernel) (by simp) fun p hp => by
    rcases List.mem_append.mp hp with m | m
    · exact h p m
    · rw [List.mem_singleton.mp m]
      exact fun z => by cases z
theorem lines_nj {ls : List Str} (h : ∀ l ∈ ls, noNl l) (ne : ls ≠ []) : linesOf (.str (joinNl ls)) = .inr ls := by
  have e := nls_nj h
  have l1 := (nls_le (joinNl ls)).2
  rw [e, List.length_append, List.length_singleton] at l1
  have l0 := List.length_pos_iff.mpr ne
  show (if (joinNl ls).length = 0 then _ else if (nls (joinNl ls)).getLastD "" = ("" : Str) then Sum.inr (nls (joinNl ls)).dropLast else _) = _
  rw [if_neg (by omega), e, if_pos (by rw [getLastD_snoc]), List.dropLast_concat]
theorem len_nj {ls : List Str} {b : Nat} (h : ∀ l ∈ ls, l.length ≤ b) : (joinNl ls).length ≤ ls.length * (b + 1) := by
  rw [TL.len_tl, nj_tl]
  induction ls with
  | nil => exact Nat.zero_le _
  | cons l ls ih =>
    rw [List.map_cons, List.flatten_cons, List.length_append, List.length_append, List.length_cons (as := ls), Nat.succ_mul]
    have h1 := h l List.mem_cons_self
    rw [TL.len_tl] at h1
    have := ih fun l hl => h l (List.mem_cons_of_mem _ hl)
    simp only [List.length_singleton]
    omega
theorem okS_nj {ls : List Str} (h : ∀ l ∈ ls, okS l) : okS (joinNl ls) := fun ch hc => by
  have hc : ch ∈ TL.tl (joinNl ls) := hc
  rw [nj_tl, List.mem_flatten] at hc
  obtain ⟨p, hp, hc⟩ := hc
  obtain ⟨l, hl, rfl⟩ := List.mem_map.mp hp
  rcases List.mem_append.mp hc with m | m
  · exact h l hl ch m
  · rw [List.mem_singleton.mp m]
    decide
theorem okS_app {x y : Str} (h : okS x) (g : okS y) : okS (x ++ y) := fun ch hc => by
  have hc : ch ∈ TL.tl (x ++ y) := hc
  rw [TL.tl_append] at hc
  rcases List.mem_append.mp hc with m | m
  · exact h ch m
  · exact g ch m
theorem noNl_app {x y : Str} (h : noNl x) (g : noNl y) : noNl (x ++ y) := fun hc => by
  rw [TL.tl_append] at hc
  rcases List.mem_append.mp hc with m | m
  · exact h m
  · exact g m
/-- a text of the first 128 signs, without a line's end and without a blank -/
def word (x : Str) : Prop := ∀ ch ∈ TL.tl x, 33 ≤ ch ∧ ch < 128
theorem word.ok {x : Str} (h : word x) : okS x := fun ch hc => Nat.lt_trans (h ch hc).2 (by decide)
theorem word.nn {x : Str} (h : word x) : noNl x := fun hc => by
  have := (h 10 hc).1
  omega
theorem word.ns {x : Str} (h : word x) : 32 ∉ TL.tl x := fun hc => by
  have := (h 32 hc).1
  omega
theorem word.app {x y : Str} (h : word x) (g : word y) : word (x ++ y) := fun ch hc => by
  rw [TL.tl_append] at hc
  rcases List.mem_append.mp hc with m | m
  · exact h ch m
  · exact g ch m
theorem word_dec {x : Str} (h : (TL.tl x).all (fun ch => decide (33 ≤ ch) && decide (ch < 128)) = true) : word x := fun ch hc => by
  have := List.all_eq_true.mp h ch hc
  rw [Bool.and_eq_true] at this
  exact ⟨of_decide_eq_true this.1, of_decide_eq_true this.2⟩
theorem num_all : (List.range 400).all (fun k => decide (numOf (numS (k : Nat)) = some ((k : Nat) : Int)) && (TL.tl (numS (k : Nat))).all (fun ch => decide (33 ≤ ch) && decide (ch < 128))) = true := by decide +kernel
theorem num_ok {n : Int} (h0 : 0 ≤ n) (h1 : n < 400) : numOf (numS n) = some n ∧ word (numS n) := by
  have := List.all_eq_true.mp num_all n.toNat (List.mem_range.mpr (by omega))
  rw [Int.toNat_of_nonneg h0, Bool.and_eq_true] at this
  exact ⟨of_decide_eq_true this.1, word_dec this.2⟩
theorem sig_all : (List.range 30).all (fun k => decide ((k : Int) = 15) || (decide (setOf (signedOf ((k : Int) - 15)) = some ((k : Int) - 15)) && (TL.tl (signedOf ((k : Int) - 15))).all (fun ch => decide (33 ≤ ch) && decide (ch < 128)))) = true := by decide +kernel
theorem sig_ok {n : Int} (h0 : -12 ≤ n) (h1 : n ≤ 12) (hz : n ≠ 0) : setOf (signedOf n) = some n ∧ word (signedOf n) := by
  have := List.all_eq_true.mp sig_all (n + 15).toNat (List.mem_range.mpr (by omega))
  rw [Int.toNat_of_nonneg (by omega), show n + 15 - 15 = n by omega, decide_eq_false (by omega), Bool.false_or, Bool.and_eq_true] at this
  exact ⟨of_decide_eq_true this.1, word_dec this.2⟩
end Zd
end
/-! ## L3 -/
section
set_option Elab.async false
set_option linter.all false
set_option maxRecDepth 100000
set_option maxHeartbeats 4000000
/-! _law_bent. -/
namespace Zd
open PySem PySem.Spec PyProof.Rows L2
theorem cutD_toI (xs : List PyData) {k : Int} (h : 0 ≤ k) : cutD xs none (some k) = xs.take k.toNat := by
  conv => lhs; rw [show k = ((k.toNat : Nat) : Int) by omega]
  exact cutD_to xs k.toNat
theorem cutD_fromI (xs : List PyData) {k : Int} (h : 0 ≤ k) : cutD xs (some k) none = xs.drop k.toNat := by
  conv => lhs; rw [show k = ((k.toNat : Nat) : Int) by omega]
  exact cutD_from xs k.toNat
/-- a drawn text of some -/
def pkS (ns : List Int) (t : Ds) (xs : List Str) : Str := xs.getD (tk ns t xs.length).1.toNat ""
/-- lines that are not too many and not too long -/
structure Lns (ls : List Str) : Prop where
  ok : ∀ l ∈ ls, okS l
  b : ∀ l ∈ ls, l.length ≤ 200
  n : ls.length ≤ 240
  ne : ls ≠ []
theorem Lns.get {ls : List Str} (h : Lns ls) (i : Nat) : okS (ls.getD i "") ∧ (ls.getD i "").length ≤ 200 := by
  refine ⟨okS_getD h.ok i, ?_⟩
  rw [List.getD_eq_getElem?_getD]
  cases q : ls[i]? with
  | none => exact Nat.zero_le _
  | some p => exact h.b p (List.mem_of_getElem? q)
theorem strs_get {xs : List Str} {i : Nat} (h : i < xs.length) : (xs.map PyData.str).getD i .none = .str (xs.getD i "") := by
  rw [List.getD_eq_getElem?_getD, List.getElem?_map, List.getD_eq_getElem?_getD, List.getElem?_eq_getElem h]
  rfl
theorem pk_strs {c : Cg} {R : Rw} {t : Ds} {xs : List Str} (ok : RwOk c R) (hp : 0 ≤ t.p) (ne : xs ≠ []) (hl : xs.length < 1000) : RPick c [.raw (.ref R.r), .dat (.list (xs.map PyData.str))] (R.m t) (.rt (S (pkS R.ns t xs)) (R.m (tk R.ns t xs.length).2)) := by
  refine ⟨R, t, xs.map PyData.str, ok, hp, by simpa using ne, by rw [List.length_map]; omega, rfl, rfl, ?_⟩
  have l0 := List.length_pos_iff.mpr ne
  have d1 := tk_lo (ns := R.ns) (t := t) (m := (xs.length : Nat)) (by omega)
  have d2 := tk_hi (ns := R.ns) (t := t) (m := (xs.length : Nat)) (by omega)
  rw [List.length_map, strs_get (by omega)]
  rfl
structure Bt where
  ls : List Str
  t : Ds
def sufs : List Str := [" ", "0", " +1", "x"]
/-- the lines, once more bent -/
def bt2 (ns : List Int) (ls mo : List Str) (k kind : Int) (t : Ds) : Bt :=
  if kind < 2 then ⟨ls.take k.toNat ++ [pkS ns t mo] ++ ls.drop k.toNat, (tk ns t mo.length).2⟩
  else if kind = 2 then ⟨ls.take k.toNat ++ ls.drop (k + 1).toNat, t⟩
  else ⟨ls.take k.toNat ++ [pkS ns t mo] ++ ls.drop (k + 1).toNat, (tk ns t mo.length).2⟩
def bt3 (ns : List Int) (ls : List Str) (k kind : Int) (b : Bt) : Bt :=
  if kind = 5 then ⟨ls.take k.toNat ++ [ls.getD k.toNat "" ++ pkS ns b.t sufs] ++ ls.drop (k + 1).toNat, (tk ns b.t 4).2⟩ else b
def btK (ns : List Int) (ls : List Str) (t : Ds) : Int × Ds := tk ns t ls.length
def btQ (ns : List Int) (ls : List Str) (t : Ds) : Int × Ds := tk ns (btK ns ls t).2 6
def btL (ns : List Int) (ls mo : List Str) (t : Ds) : Bt := bt3 ns ls (btK ns ls t).1 (btQ ns ls t).1 (bt2 ns ls mo (btK ns ls t).1 (btQ ns ls t).1 (btQ ns ls t).2)
def nine (x : Str) : List PyData := [.str x, .str x, .str x, .str x, .str (cutS x none (some (-1))), .none, .str "", .int 3, .str "\n"]
def btD (ns : List Int) (ls mo : List Str) (t : Ds) : PyData := (nine (joinNl (btL ns ls mo t).ls)).getD (tk ns (btL ns ls mo t).t 9).1.toNat .none
def btT (ns : List Int) (ls mo : List Str) (t : Ds) : Ds := (tk ns (btL ns ls mo t).t 9).2
structure LnB (ls : List Str) : Prop where
  ok : ∀ l ∈ ls, okS l
  b : ∀ l ∈ ls, l.length ≤ 210
  n : ls.length ≤ 250
theorem Lns.lb {ls : List Str} (h : Lns ls) : LnB ls := ⟨h.ok, fun l hl => Nat.le_trans (h.b l hl) (by decide), Nat.le_trans h.n (by decide)⟩
theorem lnb_mid {ls : List Str} {x : Str} {i j : Nat} (h : Lns ls) (hij : i ≤ j) (h1 : okS x) (h2 : x.length ≤ 210) : LnB (ls.take i ++ [x] ++ ls.drop j) := by
  have mem : ∀ l ∈ ls.take i ++ [x] ++ ls.drop j, l ∈ ls ∨ l = x := fun l hl => by
    rcases List.mem_append.mp hl with m | m
    · rcases List.mem_append.mp m with m | m
      · exact .inl (List.mem_of_mem_take m)
      · exact .inr (List.mem_singleton.mp m)
    · exact .inl (List.mem_of_mem_drop m)
  refine ⟨fun l hl => ?_, fun l hl => ?_, ?_⟩
  · rcases mem l hl with m | rfl
    · exact h.ok l m
    · exact h1
  · rcases mem l hl with m | rfl
    · exact Nat.le_trans (h.b l m) (by decide)
    · exact h2
  · rw [List.length_append, List.length_append, List.length_take, List.length_drop, List.length_singleton]
    have := h.n
    omega
theorem lnb_cut {ls : List Str} {i j : Nat} (h : Lns ls) (hij : i ≤ j) : LnB (ls.take i ++ ls.drop j) := by
  have mem : ∀ l ∈ ls.take i ++ ls.drop j, l ∈ ls := fun l hl => by
    rcases List.mem_append.mp hl with m | m
    · exact List.mem_of_mem_take m
    · exact List.mem_of_mem_drop m
  refine ⟨fun l hl => h.ok l (mem l hl), fun l hl => Nat.le_trans (h.b l (mem l hl)) (by decide), ?_⟩
  rw [List.length_append, List.length_take, List.length_drop]
  have := h.n
  omega
theorem sufs_ok : ∀ x ∈ sufs, okS x ∧ x.length ≤ 5 := fun x hx => by
  have hx : x ∈ ([(" " : Str), "0", " +1", "x"] : List Str) := hx
  simp only [List.mem_cons, List.not_mem_nil, or_false] at hx
  have key : ∀ (y : Str), (TL.tl y).all (fun ch => decide (ch < 128)) = true → y.length ≤ 5 → okS y ∧ y.length ≤ 5 := fun y h1 h2 => ⟨fun ch hc => Nat.lt_trans (of_decide_eq_true (List.all_eq_true.mp h1 ch hc)) (by decide), h2⟩
  rcases hx with rfl | rfl | rfl | rfl <;> exact key _ (by decide +kernel) (by decide +kernel)
theorem suf_get (ns : List Int) (t : Ds) : okS (pkS ns t sufs) ∧ (pkS ns t sufs).length ≤ 5 := by
  unfold pkS
  rw [List.getD_eq_getElem?_getD]
  cases q : sufs[(tk ns t sufs.length).1.toNat]? with
  | none => exact ⟨okS_empty, Nat.zero_le _⟩
  | some p => exact sufs_ok p (List.mem_of_getElem? q)
theorem bt2_ok {ns : List Int} {ls mo : List Str} {k kind : Int} {t : Ds} (h : Lns ls) (g : Lns mo) (hk : 0 ≤ k) (hp : 0 ≤ t.p) : LnB (bt2 ns ls mo k kind t).ls ∧ 0 ≤ (bt2 ns ls mo k kind t).t.p := by
  have x1 := g.get (tk ns t mo.length).1.toNat
  unfold bt2
  split
  · exact ⟨lnb_mid h (Nat.le_refl _) x1.1 (Nat.le_trans x1.2 (by decide)), tk_p hp⟩
  · split
    · exact ⟨lnb_cut h (by omega), hp⟩
    · exact ⟨lnb_mid h (by omega) x1.1 (Nat.le_trans x1.2 (by decide)), tk_p hp⟩
theorem bt3_ok {ns : List Int} {ls : List Str} {k kind : Int} {b : Bt} (h : Lns ls) (hk : 0 ≤ k) (hb : LnB b.ls ∧ 0 ≤ b.t.p) : LnB (bt3 ns ls k kind b).ls ∧ 0 ≤ (bt3 ns ls k kind b).t.p := by
  unfold bt3
  split
  · have x1 := h.get k.toNat
    have x2 := suf_get ns b.t
    exact ⟨lnb_mid h (by omega) (okS_app x1.1 x2.1) (by rw [app_len]; omega), tk_p hb.2⟩
  · exact hb
theorem btL_ok {ns : List Int} {ls mo : List Str} {t : Ds} (h : Lns ls) (g : Lns mo) (hp : 0 ≤ t.p) : LnB (btL ns ls mo t).ls ∧ 0 ≤ (btL ns ls mo t).t.p := by
  have l0 := List.length_pos_iff.mpr h.ne
  have k0 : 0 ≤ (btK ns ls t).1 := tk_lo (by omega)
  exact bt3_ok h k0 (bt2_ok h g k0 (tk_p (tk_p hp)))
theorem nine_ok {x : Str} (h1 : x.length ≤ 70000) (h2 : okS x) (i : Nat) : TxL ((nine x).getD i .none) := by
  rw [List.getD_eq_getElem?_getD]
  cases q : (nine x)[i]? with
  | none => exact .non
  | some d =>
    have m : d ∈ [PyData.str x, .str x, .str x, .str x, .str (cutS x none (some (-1))), .none, .str "", .int 3, .str "\n"] := List.mem_of_getElem? q
    simp only [List.mem_cons, List.not_mem_nil, or_false] at m
    rcases m with rfl | rfl | rfl | rfl | rfl | rfl | rfl | rfl | rfl
    · exact .str h1 h2
    · exact .str h1 h2
    · exact .str h1 h2
    · exact .str h1 h2
    · exact .str (Nat.le_trans (cutS_length x none (some (-1))) h1) (okS_cut h2 _ _)
    · exact .non
    · exact .str (Nat.zero_le _) okS_empty
    · exact .int
    · exact .str (by decide) (fun ch hc => by
        have hc : ch ∈ TL.tl ("\n" : Str) := hc
        rw [show TL.tl ("\n" : Str) = [10] from nl10] at hc
        rw [List.mem_singleton.mp hc]
        decide)
theorem btD_ok {ns : List Int} {ls mo : List Str} {t : Ds} (h : Lns ls) (g : Lns mo) (hp : 0 ≤ t.p) : TxL (btD ns ls mo t) ∧ 0 ≤ (btT ns ls mo t).p := by
  obtain ⟨b, p⟩ := btL_ok (ns := ns) h g hp
  have l1 := len_nj b.b
  have l2 := b.n
  have l3 : (btL ns ls mo t).ls.length * (210 + 1) ≤ 250 * 211 := Nat.mul_le_mul_right _ l2
  exact ⟨nine_ok (by omega) (okS_nj b.ok) _, tk_p p⟩
def RLawBent (c : Cg) (as : List Sl) (M : Mp) (o : Out) : Prop := ∃ (R : Rw) (t : Ds) (ls mo : List Str), RwOk c R ∧ 0 ≤ t.p ∧ Lns ls ∧ Lns mo ∧ as = [.raw (.ref R.r), .dat (.list (ls.map PyData.str)), .dat (.list (mo.map PyData.str))] ∧ M = R.m t ∧ o = .rt (.dat (btD R.ns ls mo t)) (R.m (btT R.ns ls mo t))
theorem sc_law_bent : FnScope ["_law_row", "_law_lines_here", "_law_more", "_law_k", "_law_kind", "_law_bent_here", "_law_text", "_law_line"] ["_law_row", "_law_lines_here", "_law_more"] (defScope s_law_bent) := ⟨rfl, rfl, rfl, by decide +kernel, rfl, by decide +kernel, by decide +kernel⟩
theorem df_law_bent {P : Program} {w : World} {c : Cg} {mg : Str → Option Value} {base : Heap} (T : Tq c mg base) : Df P w c mg base "_law_bent" 3 0 (RLawBent c) :=
  df_mk T.d_law_bent sc_law_bent (fun as M o ⟨_, _, _, _, _, _, _, _, h, _⟩ => by rw [h]; rfl) fun as M o hR f cdv A' outer s H E hr => by
    obtain ⟨R, t, ls, mo, ok, hp, hl, hm, rfl, rfl, rfl⟩ := hR
    refine ⟨_, ?_, .inl rfl⟩
    have l0 := List.length_pos_iff.mpr hl.ne
    have ln := hl.n
    have mn := hm.n
    have k0 : 0 ≤ (btK R.ns ls t).1 := tk_lo (by omega)
    have k1 : (btK R.ns ls t).1 < (ls.length : Nat) := tk_hi (by omega)
    have pk : 0 ≤ (btK R.ns ls t).2.p := tk_p hp
    have pq : 0 ≤ (btQ R.ns ls t).2.p := tk_p pk
    refine b_cons (s_par (d1 := I (btK R.ns ls t).1) (d2 := I (btQ R.ns ls t).1) 3 4 sc_law_bent.nd (ds_cons (d_call (M2 := R.m (btK R.ns ls t).2) (df_law_taken T) hr (ds_cons (d_var 0) (ds_cons (d_blt (ds_cons (d_var 1) ds_nil) (y_len (D := .list (ls.map PyData.str)) (by show (ls.map PyData.str).length ≤ _; rw [List.length_map]; omega)) T.b_len) ds_nil)) ⟨R, t, (ls.length : Nat), ok, hp, by omega, by omega, by show [_, I (((ls.map PyData.str).length : Nat) : Int)] = _; rw [List.length_map], rfl, rfl⟩) (ds_cons (d_call (M2 := R.m (btQ R.ns ls t).2) (df_law_taken T) hr (ds_cons (d_var 0) (ds_cons d_int ds_nil)) ⟨R, (btK R.ns ls t).2, 6, ok, pk, by omega, by omega, rfl, rfl, rfl⟩) ds_nil))) ?_
    have e0 : (btL R.ns ls mo t) = bt3 R.ns ls (btK R.ns ls t).1 (btQ R.ns ls t).1 (bt2 R.ns ls mo (btK R.ns ls t).1 (btQ R.ns ls t).1 (btQ R.ns ls t).2) := rfl
    have okL := btL_ok (ns := R.ns) hl hm hp
    unfold btD btT
    rw [e0] at okL ⊢
    generalize (btK R.ns ls t).1 = k at k0 k1 okL ⊢
    generalize (btQ R.ns ls t).1 = kind at okL ⊢
    generalize (btQ R.ns ls t).2 = t2 at pq okL ⊢
    have okB := bt2_ok (kind := kind) hl hm k0 pq (ns := R.ns)
    have kl : k.toNat < ls.length := by omega
    have tk1 : ∀ n, ((ls.take n).map PyData.str).length ≤ 240 := fun n => by rw [List.length_map, List.length_take]; omega
    have dr1 : ∀ n, ((ls.drop n).map PyData.str).length ≤ 240 := fun n => by rw [List.length_map, List.length_drop]; omega
    have pkm := pk_strs (R := R) (t := t2) (xs := mo) ok pq hm.ne (by omega)
    refine b_cons (s_set (d := .dat (.list ((bt2 R.ns ls mo k kind t2).ls.map PyData.str))) (M1 := R.m (bt2 R.ns ls mo k kind t2).t) 5 sc_law_bent.nd ?_) ?_
    · unfold bt2
      by_cases h1 : kind < 2
      · rw [if_pos h1]
        refine d_if (t_cmp (d_var 4) d_int x_lt) (fun _ => ed_cast (d_op (d_op (ed_cast (d_sl (d_var 1) o_none (o_some (d_var 3)) sx_list) (d1 := .dat (.list ((ls.take k.toNat).map PyData.str))) ?_) (d_lst (ds_cons (d_call (df_law_pick T) hr (ds_cons (d_var 0) (ds_cons (d_var 2) ds_nil)) pkm) ds_nil)) (x_catL ?_)) (ed_cast (d_sl (d_var 1) (o_some (d_var 3)) o_none sx_list) (d1 := .dat (.list ((ls.drop k.toNat).map PyData.str))) ?_) (x_catL ?_)) ?_) (fun z => absurd h1 (of_decide_eq_false z))
        · rw [cutD_toI _ k0, List.map_take]
        · have := tk1 k.toNat
          show _ + 1 ≤ _
          omega
        · rw [cutD_fromI _ k0, List.map_drop]
        · have := tk1 k.toNat
          have := dr1 k.toNat
          rw [List.length_append]
          show _ + 1 + _ ≤ _
          omega
        · rw [List.map_append, List.map_append]
          rfl
      · rw [if_neg h1]
        by_cases h2 : kind = 2
        · rw [if_pos h2]
          refine d_if (t_cmp (d_var 4) d_int x_lt) (fun z => absurd (of_decide_eq_true z) h1) (fun _ => d_if (t_cmp (d_var 4) d_int x_eqI) (fun _ => ed_cast (d_op (ed_cast (d_sl (d_var 1) o_none (o_some (d_var 3)) sx_list) (d1 := .dat (.list ((ls.take k.toNat).map PyData.str))) ?_) (ed_cast (d_sl (d_var 1) (o_some (d_op (d_var 3) d_int x_add)) o_none sx_list) (d1 := .dat (.list ((ls.drop (k + 1).toNat).map PyData.str))) ?_) (x_catL ?_)) ?_) (fun z => absurd h2 (of_decide_eq_false z)))
          · rw [cutD_toI _ k0, List.map_take]
          · rw [cutD_fromI _ (by omega), List.map_drop]
          · have := tk1 k.toNat
            have := dr1 (k + 1).toNat
            omega
          · rw [List.map_append]
        · rw [if_neg h2]
          refine d_if (t_cmp (d_var 4) d_int x_lt) (fun z => absurd (of_decide_eq_true z) h1) (fun _ => d_if (t_cmp (d_var 4) d_int x_eqI) (fun z => absurd (of_decide_eq_true z) h2) (fun _ => ed_cast (d_op (d_op (ed_cast (d_sl (d_var 1) o_none (o_some (d_var 3)) sx_list) (d1 := .dat (.list ((ls.take k.toNat).map PyData.str))) ?_) (d_lst (ds_cons (d_call (df_law_pick T) hr (ds_cons (d_var 0) (ds_cons (d_var 2) ds_nil)) pkm) ds_nil)) (x_catL ?_)) (ed_cast (d_sl (d_var 1) (o_some (d_op (d_var 3) d_int x_add)) o_none sx_list) (d1 := .dat (.list ((ls.drop (k + 1).toNat).map PyData.str))) ?_) (x_catL ?_)) ?_))
          · rw [cutD_toI _ k0, List.map_take]
          · have := tk1 k.toNat
            show _ + 1 ≤ _
            omega
          · rw [cutD_fromI _ (by omega), List.map_drop]
          · have := tk1 k.toNat
            have := dr1 (k + 1).toNat
            rw [List.length_append]
            show _ + 1 + _ ≤ _
            omega
          · rw [List.map_append, List.map_append]
            rfl
    generalize bt2 R.ns ls mo k kind t2 = b at okL okB ⊢
    refine b_cons (s_set (d := .dat (.list ((bt3 R.ns ls k kind b).ls.map PyData.str))) (M1 := R.m (bt3 R.ns ls k kind b).t) 5 sc_law_bent.nd ?_) ?_
    · unfold bt3
      by_cases h1 : kind = 5
      · rw [if_pos h1]
        have pks := pk_strs (R := R) (t := b.t) (xs := sufs) ok okB.2 (by decide) (by decide)
        have sg := suf_get R.ns b.t
        have lg := (hl.get k.toNat).2
        refine d_if (t_cmp (d_var 4) d_int x_eqI) (fun _ => ed_cast (d_op (d_op (ed_cast (d_sl (d_var 1) o_none (o_some (d_var 3)) sx_list) (d1 := .dat (.list ((ls.take k.toNat).map PyData.str))) ?_) (d_lst (ds_cons (d_op (d_ix (d_var 1) (d_var 3) (x_ixL (atI_d k0 ?_))) (d_call (df_law_pick T) hr (ds_cons (d_var 0) (ds_cons (d_lst (ds_cons d_str (ds_cons d_str (ds_cons d_str (ds_cons d_str ds_nil))))) ds_nil)) pks) ?_) ds_nil) (dd := [.str (ls.getD k.toNat "" ++ pkS R.ns b.t sufs)])) (x_catL ?_)) (ed_cast (d_sl (d_var 1) (o_some (d_op (d_var 3) d_int x_add)) o_none sx_list) (d1 := .dat (.list ((ls.drop (k + 1).toNat).map PyData.str))) ?_) (x_catL ?_)) ?_) (fun z => absurd h1 (of_decide_eq_false z))
        · rw [cutD_toI _ k0, List.map_take]
        · rw [List.length_map]
          exact k1
        · rw [strs_get kl]
          exact x_addS (by omega)
        · have := tk1 k.toNat
          show _ + 1 ≤ _
          omega
        · rw [cutD_fromI _ (by omega), List.map_drop]
        · have := tk1 k.toNat
          have := dr1 (k + 1).toNat
          rw [List.length_append]
          show _ + 1 + _ ≤ _
          omega
        · rw [List.map_append, List.map_append]
          rfl
      · rw [if_neg h1]
        exact d_if (t_cmp (d_var 4) d_int x_eqI) (fun z => absurd (of_decide_eq_true z) h1) (fun _ => d_var 5)
    generalize bt3 R.ns ls k kind b = q at okL ⊢
    obtain ⟨lb, qp⟩ := okL
    have qn := lb.n
    have l1 := len_nj lb.b
    have l3 : q.ls.length * (210 + 1) ≤ 250 * 211 := Nat.mul_le_mul_right _ qn
    have e2 : ("\n" : Str).length = 1 := by decide
    refine b_cons (s_set (d := S (joinNl q.ls)) 6 sc_law_bent.nd (d_join (ys := q.ls.map fun l => l ++ "\n") d_str (ed_cast (d_lc (as := q.ls) (g := PyData.str) (own := [("_law_line", 7)]) (fun _ => true) (fun l => .str (l ++ "\n")) (fun r => _) [7] rfl (by rfl) sc_law_bent.nd (blkOk_cx (by decide +kernel)) (i_lst (d_var 5)) (by decide) (by omega) (fun a ha s H C cl fp => (g_name 7 sc_law_bent.nd)) (fun a ha s H C cl fp => ts_nil) (fun a ha hp s H C cl fp => (d_op (d_var 7) d_str (x_addS (by have := lb.b a ha; omega))))) ?_) ?_)) ?_
    · rw [List.filter_eq_self.mpr (fun _ _ => rfl), List.map_map]
      rfl
    · exact sum_join0 _ 300 (fun y hy => by
        obtain ⟨r, hr, rfl⟩ := List.mem_map.mp hy
        have := lb.b r hr
        rw [app_len]
        omega) (by rw [List.length_map]; omega)
    · refine b_cons (s_ret (d_call (df_law_pick T) hr (ds_cons (d_var 0) (ds_cons (d_lst (ds_cons (d_var 6) (ds_cons (d_var 6) (ds_cons (d_var 6) (ds_cons (d_var 6) (ds_cons (d_sl (d_var 6) o_none (o_some (d_neg d_int)) (sx_str (by omega))) (ds_cons d_non (ds_cons d_str (ds_cons d_int (ds_cons d_str ds_nil)))))))))) ds_nil)) ⟨R, q.t, nine (joinNl q.ls), ok, qp, (fun z => by cases z), show 9 < 100000 by decide, rfl, rfl, rfl⟩)) rfl
end Zd
end
/-! ## L4 -/
section
set_option Elab.async false
set_option linter.all false
set_option maxRecDepth 100000
set_option maxHeartbeats 4000000
/-! _law_alike, of one thing and itself. -/
namespace Zd
open PySem PySem.Spec PyProof.Rows L2
inductive AlD : Nat → PyData → Prop
  | non {n : Nat} : AlD n .none
  | str {n : Nat} {x : Str} : AlD n (.str x)
  | int {n : Nat} {i : Int} : AlD n (.int i)
  | tup {n : Nat} {xs : List PyData} (h : ∀ d ∈ xs, AlD n d) (hl : xs.length ≤ 90000) : AlD (n + 1) (.tuple xs)
  | lst {n : Nat} {xs : List PyData} (h : ∀ d ∈ xs, AlD n d) (hl : xs.length ≤ 90000) : AlD (n + 1) (.list xs)
def RAlike (n : Nat) (as : List Sl) (M : Mp) (o : Out) : Prop := ∃ D, AlD n D ∧ as = [.dat D, .dat D] ∧ o = .rt (Bo true) M
theorem sc_law_alike : FnScope ["_law_found", "_law_due", "_law_k"] ["_law_found", "_law_due"] (defScope s_law_alike) := ⟨rfl, rfl, rfl, by decide +kernel, rfl, by decide +kernel, by decide +kernel⟩
theorem atI_get {xs : List PyData} {k : Nat} (h : k < xs.length) : atI xs (0 + (k : Int)) = some xs[k] := by
  rw [Int.zero_add]
  exact L2.atI_nat (List.getElem?_eq_getElem h)
theorem alike_step {P : Program} {w : World} {c : Cg} {mg : Str → Option Value} {base : Heap} (T : Tq c mg base) (n : Nat) (ih : ∀ m, n = m + 1 → Df P w c mg base "_law_alike" n 0 (RAlike m)) : Df P w c mg base "_law_alike" (n + 1) 0 (RAlike n) := by
  refine df_mk T.d_law_alike sc_law_alike (fun as M o ⟨_, _, h, _⟩ => by rw [h]; rfl) fun as M o hR f cdv A outer s H E hr => ?_
  obtain ⟨D, hD, rfl, rfl⟩ := hR
  refine ⟨_, ?_, .inl rfl⟩
  cases hD with
  | non =>
    refine b_skip (t_val (d_isi2 "NoneType" false false false (d_var 1) T.b_isinstance T.b_tuple T.b_list)) (b_hit (et_cast (t_w (w_or (k' := true) (t_cmp (d_var 1) d_non x_isN) (fun h => by cases h))) rfl) ?_ (fun _ _ => nofun))
    exact b_cons (s_ret (ed_cast (d_and (d_cmp (d_var 0) (d_var 1) x_eqN) (fun h => (d_one (d_cmp (d_blt (ds_cons (d_var 0) (ds_cons (d_ty (T := "str") T.b_str) ds_nil)) (y_isi "NoneType" false) T.b_isinstance) (d_blt (ds_cons (d_var 1) (ds_cons (d_ty (T := "str") T.b_str) ds_nil)) (y_isi "NoneType" false) T.b_isinstance) x_eqB)))) rfl)) rfl
  | @str _ x =>
    refine b_skip (t_val (d_isi2 "str" false false false (d_var 1) T.b_isinstance T.b_tuple T.b_list)) (b_hit (et_cast (t_w (w_or (t_cmp (d_var 1) d_non x_isN) (fun h => w_or1 (t_val (d_blt (ds_cons (d_var 1) (ds_cons (d_ty (T := "str") T.b_str) ds_nil)) (y_isi "str" true) T.b_isinstance))))) rfl) ?_ (fun _ _ => nofun))
    exact b_cons (s_ret (ed_cast (d_and (d_cmp (d_var 0) (d_var 1) x_eqS) (fun h => (d_one (d_cmp (d_blt (ds_cons (d_var 0) (ds_cons (d_ty (T := "str") T.b_str) ds_nil)) (y_isi "str" true) T.b_isinstance) (d_blt (ds_cons (d_var 1) (ds_cons (d_ty (T := "str") T.b_str) ds_nil)) (y_isi "str" true) T.b_isinstance) x_eqB)))) (by rw [decide_eq_true (rfl : x = x)]; rfl))) rfl
  | @int _ i =>
    refine b_skip (t_val (d_isi2 "int" false false false (d_var 1) T.b_isinstance T.b_tuple T.b_list)) (b_skip (et_cast (t_w (w_or (t_cmp (d_var 1) d_non x_isN) (fun h => w_or1 (t_val (d_blt (ds_cons (d_var 1) (ds_cons (d_ty (T := "str") T.b_str) ds_nil)) (y_isi "int" false) T.b_isinstance))))) rfl) ?_)
    exact b_cons (s_ret (ed_cast (d_and (d_blt (ds_cons (d_var 0) (ds_cons (d_ty (T := "int") T.b_int) ds_nil)) (y_isi "int" true) T.b_isinstance) (fun h => (d_and (d_cmp (d_blt (ds_cons (d_var 0) (ds_cons (d_ty (T := "bool") T.b_bool) ds_nil)) (y_isi "int" false) T.b_isinstance) (d_blt (ds_cons (d_var 1) (ds_cons (d_ty (T := "bool") T.b_bool) ds_nil)) (y_isi "int" false) T.b_isinstance) x_eqB) (fun h => (d_one (d_cmp (d_var 0) (d_var 1) x_eqI)))))) (by rw [decide_eq_true (rfl : i = i)]; rfl))) rfl
  | @tup m xs h hl =>
    have F := ih m rfl
    refine b_hit (t_val (d_isi2 "tuple" true false true (d_var 1) T.b_isinstance T.b_tuple T.b_list)) ?_ (fun _ _ => nofun)
    refine b_skip (et_cast (t_w (w_or (t_not (t_val (d_isi2 "tuple" true false true (d_var 0) T.b_isinstance T.b_tuple T.b_list))) (fun h => (w_or1 (t_cmp (d_blt (ds_cons (d_var 0) (ds_cons (d_ty (T := "list") T.b_list) ds_nil)) (y_isi "tuple" false) T.b_isinstance) (d_blt (ds_cons (d_var 1) (ds_cons (d_ty (T := "list") T.b_list) ds_nil)) (y_isi "tuple" false) T.b_isinstance) x_neB))))) rfl) ?_
    have l1 : lenD (.tuple xs) ≤ 100000 := by show xs.length ≤ _; omega
    refine b_skip (et_cast (t_cmp (d_blt (ds_cons (d_var 0) ds_nil) (y_len (D := .tuple xs) l1) T.b_len) (d_blt (ds_cons (d_var 1) ds_nil) (y_len (D := .tuple xs) l1) T.b_len) x_neI) (by rw [decide_eq_true rfl]; rfl)) ?_
    refine b_cons (s_ret (d_cmp (d3 := .dat (.bool true)) (ed_cast (d_lc (as := List.range xs.length) (g := fun k => .int (0 + (k : Nat))) (own := [("_law_k", 2)]) (fun _ => false) (fun k => .int (0 + (k : Nat))) (fun p => _) [2] rfl (by rfl) sc_law_alike.nd (blkOk_cx (by decide +kernel)) (i_rng1 (d_blt (ds_cons (d_var 1) ds_nil) (y_len (D := .tuple xs) l1) T.b_len) (by show -1000000 ≤ ((xs.length : Nat) : Int) ∧ ((xs.length : Nat) : Int) ≤ _; omega) T.b_range) (by decide) (by rw [List.length_range]; exact hl) (fun a ha s H C cl fp => (g_name 2 sc_law_alike.nd)) (fun a ha s H C cl fp => (ts_one (et_cast (t_not (t_val (d_call F hr (ds_cons (d_ix (d_var 0) (d_var 2) (x_ixT (atI_get (List.mem_range.mp ha)))) (ds_cons (d_ix (d_var 1) (d_var 2) (x_ixT (atI_get (List.mem_range.mp ha)))) ds_nil)) ⟨_, h _ (List.getElem_mem _), rfl, rfl⟩ (Nat.le_refl _)))) rfl))) (fun a ha hp s H C cl fp => by cases hp)) (d1 := .dat (.list [])) ?_) (d_lst ds_nil) (x_eqNilL (n := 0) hr layF_nil))) rfl
    rw [List.filter_eq_nil_iff.mpr (fun _ _ z => by cases z)]
    rfl
  | @lst m xs h hl =>
    have F := ih m rfl
    refine b_hit (t_val (d_isi2 "list" false true true (d_var 1) T.b_isinstance T.b_tuple T.b_list)) ?_ (fun _ _ => nofun)
    refine b_skip (et_cast (t_w (w_or (t_not (t_val (d_isi2 "list" false true true (d_var 0) T.b_isinstance T.b_tuple T.b_list))) (fun h => (w_or1 (t_cmp (d_blt (ds_cons (d_var 0) (ds_cons (d_ty (T := "list") T.b_list) ds_nil)) (y_isi "list" true) T.b_isinstance) (d_blt (ds_cons (d_var 1) (ds_cons (d_ty (T := "list") T.b_list) ds_nil)) (y_isi "list" true) T.b_isinstance) x_neB))))) rfl) ?_
    have l1 : lenD (.list xs) ≤ 100000 := by show xs.length ≤ _; omega
    refine b_skip (et_cast (t_cmp (d_blt (ds_cons (d_var 0) ds_nil) (y_len (D := .list xs) l1) T.b_len) (d_blt (ds_cons (d_var 1) ds_nil) (y_len (D := .list xs) l1) T.b_len) x_neI) (by rw [decide_eq_true rfl]; rfl)) ?_
    refine b_cons (s_ret (d_cmp (d3 := .dat (.bool true)) (ed_cast (d_lc (as := List.range xs.length) (g := fun k => .int (0 + (k : Nat))) (own := [("_law_k", 2)]) (fun _ => false) (fun k => .int (0 + (k : Nat))) (fun p => _) [2] rfl (by rfl) sc_law_alike.nd (blkOk_cx (by decide +kernel)) (i_rng1 (d_blt (ds_cons (d_var 1) ds_nil) (y_len (D := .list xs) l1) T.b_len) (by show -1000000 ≤ ((xs.length : Nat) : Int) ∧ ((xs.length : Nat) : Int) ≤ _; omega) T.b_range) (by decide) (by rw [List.length_range]; exact hl) (fun a ha s H C cl fp => (g_name 2 sc_law_alike.nd)) (fun a ha s H C cl fp => (ts_one (et_cast (t_not (t_val (d_call F hr (ds_cons (d_ix (d_var 0) (d_var 2) (x_ixL (atI_get (List.mem_range.mp ha)))) (ds_cons (d_ix (d_var 1) (d_var 2) (x_ixL (atI_get (List.mem_range.mp ha)))) ds_nil)) ⟨_, h _ (List.getElem_mem _), rfl, rfl⟩ (Nat.le_refl _)))) rfl))) (fun a ha hp s H C cl fp => by cases hp)) (d1 := .dat (.list [])) ?_) (d_lst ds_nil) (x_eqNilL (n := 0) hr layF_nil))) rfl
    rw [List.filter_eq_nil_iff.mpr (fun _ _ z => by cases z)]
    rfl
theorem df_law_alike {P : Program} {w : World} {c : Cg} {mg : Str → Option Value} {base : Heap} (T : Tq c mg base) : ∀ n : Nat, Df P w c mg base "_law_alike" (n + 1) 0 (RAlike n)
  | 0 => alike_step T 0 fun m z => by cases z
  | n + 1 => alike_step T (n + 1) fun m z => by cases z; exact df_law_alike T n
end Zd
end
/-! ## L5 -/
section
set_option Elab.async false
set_option linter.all false
set_option maxRecDepth 100000
set_option maxHeartbeats 4000000
/-! try with a named clause and a bare one behind it. -/
namespace Zd
open PySem PySem.Spec PyProof.Rows L2
/-- the state in which the clauses are looked at -/
structure Cau (X : Cx) (pins : List (Addr × Obj)) (σ : L2.St) (H : Hp) (a : Addr) (cls : Value) (d : Option Addr) (B : Heap) (s : Shared) : Prop where
  fl : HandSPX.FlyingZ B (X.env :: X.outer) a (Zc cls d) s.heap
  na : H a = none
  inv : ∀ h, HandSPX.FlyingZ B (X.env :: X.outer) a (Zc cls d) h → s.heap.UpToSlots h → Inv X pins σ H { s with heap := h }
section
variable {X : Cx} {pins : List (Addr × Obj)} {σ : L2.St} {H : Hp} {s : Shared} {a : Addr} {cls c : Value} {d : Option Addr} {B : Heap}
/-- .. and at any later look -/
theorem Cau.suite (C : Cau X pins σ H a cls d B s) (hf : X.env.frame = some X.env.locals) {h : Heap} (fl : HandSPX.FlyingZ B (X.env :: X.outer) a (Zc cls d) h) (up : s.heap.UpToSlots h) :
    ∃ oe : Obj, Zc cls d oe ∧ (∃ vs, oe.data = .fields vs) ∧ h.get? a = some oe ∧ Inv (X.suite a ((a, oe) :: (X.pn ++ pins))) [] σ H { s with heap := h } := by
  obtain ⟨oe, vs, he, hz, hd⟩ := fl.there
  have ff : h.FunFrames B (X.env :: X.outer) := fl.2.2.1
  have out : a ∉ frs (X.env :: X.outer) := fun hm => by
    obtain ⟨_, o', e', hnf⟩ := ff.mem hm
    rw [he] at e'
    cases e'
    exact hnf _ hd
  refine ⟨oe, hz, ⟨vs, hd⟩, he, (C.inv h fl up).suite he hd C.na (fun z => ?_) fun hm => ?_⟩
  · exact out (List.mem_filterMap.mpr ⟨X.env, List.mem_cons_self, by rw [hf, z]⟩)
  · obtain ⟨e, he, q⟩ := List.mem_filterMap.mp hm
    exact out (List.mem_filterMap.mpr ⟨e, List.mem_cons_of_mem _ he, q⟩)
/-- the clause is looked at -/
theorem Cau.look {x : Str} {np pos : Pos} {nm : Option Str} {su : List Stmt} {rest : List ExceptHandler} {Q : Flow → Shared → Prop} {E : Value → Shared → Prop} {b : Bool} (C : Cau X pins σ H a cls d B s) (hf : X.env.frame = some X.env.locals) (hc : Names X x c) (hm : PySem.W.exmOne X.K cls c = some b)
    (k0 : b = false → wpAny (model X.prog X.w) X.A (handleBy (.ref a) X.env rest) Q E s)
    (k1 : b = true → codeAny (model X.prog X.w) (X.A.mark (some (.ref a))) (.handlers (.ref a) [.ExceptHandler none nm su pos] X.env) (fun r s₂ => match r with
          | .ok f => (match nm with
            | none => Q f s₂
            | some n => wpAny (model X.prog X.w) X.A (do bindName X.env n .none; unbindBehindTheSuite X.env n pos) (fun _ s₃ => Q f s₃) E s₂)
          | .error x => cameBackBy (model X.prog X.w) X.A X.env E x s₂) s) :
    wpAny (model X.prog X.w) X.A (handleBy (.ref a) X.env (.ExceptHandler (some (.Name x np)) nm su pos :: rest)) Q E s := by
  obtain ⟨oe, hz, _, he, S⟩ := C.suite hf C.fl (Heap.UpToSlots.refl _)
  have ty : PySem.W.Looks (model X.prog X.w) s.heap (typeOf (.ref a)) cls := fun A Q E s k q => wpAny_typeOf_ref (k _ _ he) (by rw [hz.1]; exact q)
  have mt := PySem.W.exm_one (M := model X.prog X.w) S.kIn ty hm
  refine wpAny_handleBy_cons (codeAny_handlers_test ?_) (by intro q; cases q)
  have go : ∀ {Q' : Value → Shared → Prop} {E' : Value → Shared → Prop}, Q' c s → wpAny (model X.prog X.w) (X.A.mark (some (.ref a))) (eval (.Name x np) X.env) Q' E' s := fun q => by
    obtain ⟨hg, hdb, z⟩ := hc
    rcases z with z | ⟨z1, z2, z3⟩
    · exact ld_glob S hg z q hdb
    · exact ld_blt S hg z1 z2 q z3 hdb
  refine go (mt.here ?_)
  cases b with
  | true => exact k1 rfl
  | false => exact k0 rfl
/-- how a suite's end goes on behind the clauses -/
theorem sp_out {oe : Obj} {D : Ends} {f : Flow} {s' : Shared} (ok : X.Ok) (h : SP (X.suite a ((a, oe) :: (X.pn ++ pins))) [] D f s') : SP X pins D f s' := by
  cases f with
  | next =>
    obtain ⟨σ1, H1, S1, q⟩ := h
    exact ⟨_, _, S1.unsuite ok, q⟩
  | brk =>
    obtain ⟨σ1, H1, S1, q⟩ := h
    exact ⟨_, _, S1.unsuite ok, q⟩
  | cont =>
    obtain ⟨σ1, H1, S1, q⟩ := h
    exact ⟨_, _, S1.unsuite ok, q⟩
  | ret u =>
    obtain ⟨v, σ1, H1, S1, r, q⟩ := h
    exact ⟨_, _, _, S1.unsuite ok, r, q⟩
/-- the bare clause takes it -/
theorem Cau.bare {x : Str} {np pos : Pos} {b₀ : Stmt} {su : List Stmt} {rest : List ExceptHandler} {ts : TS} {D : Ends} (ok : X.Ok) (C : Cau X pins σ H a cls d B s) (hf : X.env.frame = some X.env.locals) (hc : Names X x c) (hm : PySem.W.exmOne X.K cls c = some true)
    (hs : ∀ (oe : Obj) (pn : List (Addr × Obj)), Zc cls d oe → (∃ vs, oe.data = .fields vs) → PSs (X.suite a ((a, oe) :: pn)) (b₀ :: su) ts) (hw : ts D σ H) :
    wpAny (model X.prog X.w) X.A (handleBy (.ref a) X.env (.ExceptHandler (some (.Name x np)) none (b₀ :: su) pos :: rest)) (SP X pins D) X.xe s := by
  refine C.look hf hc hm (fun z => by cases z) fun _ => codeAny_handlers_suite (HandSPX.lands_againZ C.fl fun h fl up => ?_)
  obtain ⟨oe, hz, hd, he, S⟩ := C.suite hf fl up
  exact wpAny_mono ((hs oe (X.pn ++ pins) hz hd).run [] _ σ H D S hw) (fun f s' q => sp_out ok q) fun _ _ z => z.elim
/-- the clause with a name takes it: slot i is the name's -/
theorem Cau.named {x n : Str} {i : Nat} {np pos : Pos} {b₀ : Stmt} {su : List Stmt} {rest : List ExceptHandler} {ts : TS} {D : Ends} (ok : X.Ok) (hN : X.N.Nodup) (hi : X.N[i]? = some n) (hl : X.env.kindOf n = some .local) (C : Cau X pins σ H a cls d B s) (hf : X.env.frame = some X.env.locals) (hc : Names X x c) (hm : PySem.W.exmOne X.K cls c = some true)
    (hs : ∀ (oe : Obj) (pn : List (Addr × Obj)), Zc cls d oe → (∃ vs, oe.data = .fields vs) → PSs (X.suite a ((a, oe) :: pn)) (b₀ :: su) ts)
    (hw : ts { nx := fun σ' H' => D.nx (σ'.set i none) H', rt := D.rt, bk := fun σ' H' => D.bk (σ'.set i none) H', ct := fun σ' H' => D.ct (σ'.set i none) H' } (σ.set i (some (.ref a))) H) :
    wpAny (model X.prog X.w) X.A (handleBy (.ref a) X.env (.ExceptHandler (some (.Name x np)) (some n) (b₀ :: su) pos :: rest)) (SP X pins D) X.xe s := by
  refine C.look hf hc hm (fun z => by cases z) fun _ => codeAny_handlers_suite_as (HandSPX.lands_againZ C.fl fun h fl up => ?_)
  obtain ⟨oe, hz, hd, he, S⟩ := C.suite hf fl up
  refine store_ok (X := X.suite a ((a, oe) :: (X.pn ++ pins))) (v := .ref a) S hN hi (.inl hl) rfl (fun s5 S5 => ?_) (.inr hl)
  refine wpAny_mono ((hs oe (X.pn ++ pins) hz hd).run [] s5 _ H _ S5 hw) (fun f s6 q => ?_) fun _ _ z => z.elim
  have gone : ∀ {σ1 : L2.St} {H1 : Hp} {P : Shared → Prop}, Inv (X.suite a ((a, oe) :: (X.pn ++ pins))) [] σ1 H1 s6 → (∀ s7, Inv X pins (σ1.set i none) H1 s7 → P s7) → wpAny (model X.prog X.w) X.A (do bindName X.env n .none; unbindBehindTheSuite X.env n pos) (fun _ s7 => P s7) X.xe s6 :=
    fun S1 k => gone_ok (S1.unsuite ok) hN hi hl k
  cases f with
  | next =>
    obtain ⟨σ1, H1, S1, q1⟩ := q
    exact gone S1 fun s7 J => ⟨_, _, J, q1⟩
  | brk =>
    obtain ⟨σ1, H1, S1, q1⟩ := q
    exact gone S1 fun s7 J => ⟨_, _, J, q1⟩
  | cont =>
    obtain ⟨σ1, H1, S1, q1⟩ := q
    exact gone S1 fun s7 J => ⟨_, _, J, q1⟩
  | ret u =>
    obtain ⟨v, σ1, H1, S1, r, q1⟩ := q
    exact gone S1 fun s7 J => ⟨_, _, _, J, r, q1⟩
end
/-- what the two clauses wish -/
def wTwo (K : PySem.W.Frag) (n : Nat) (c c2 : Value) (i : Nat) (ts ts2 : Addr → Value → Option Addr → TS) (D : Ends) : WX := fun cls d σ H =>
  (PySem.W.exmOne K cls c = some true ∧ (σ.length = n → ∀ a, H a = none → ts a cls d { nx := fun σ' H' => D.nx (σ'.set i none) H', rt := D.rt, bk := fun σ' H' => D.bk (σ'.set i none) H', ct := fun σ' H' => D.ct (σ'.set i none) H' } (σ.set i (some (.ref a))) H)) ∨
  (PySem.W.exmOne K cls c = some false ∧ PySem.W.exmOne K cls c2 = some true ∧ ∀ a, H a = none → ts2 a cls d D σ H)
theorem ps_try_two {X : Cx} {x y n : Str} {c c2 : Value} {i : Nat} {body su su2 : List Stmt} {b₀ b₁ : Stmt} {np np2 pos p1 p2 : Pos} {tb : WX → TS} {ts ts2 : Addr → Value → Option Addr → TS} (hs : X.stack = X.env :: X.outer) (hf : X.env.frame = some X.env.locals) (hN : X.N.Nodup) (hi : X.N[i]? = some n) (hl : X.env.kindOf n = some .local) (hc : Names X x c) (hc2 : Names X y c2)
    (hb : ∀ (W : WX) (pn : List (Addr × Obj)) (xe : Value → Shared → Prop), Takes (X.tr pn xe) W → PassesOwn (model X.prog X.w) X.A X.env xe → PSs (X.tr pn xe) body (tb W))
    (h1 : ∀ (a : Addr) (oe : Obj) (cls : Value) (d : Option Addr) (pn : List (Addr × Obj)), Zc cls d oe → (∃ vs, oe.data = .fields vs) → PSs (X.suite a ((a, oe) :: pn)) (b₀ :: su) (ts a cls d))
    (h2 : ∀ (a : Addr) (oe : Obj) (cls : Value) (d : Option Addr) (pn : List (Addr × Obj)), Zc cls d oe → (∃ vs, oe.data = .fields vs) → PSs (X.suite a ((a, oe) :: pn)) (b₁ :: su2) (ts2 a cls d)) :
    PS X (.Try body [.ExceptHandler (some (.Name x np)) (some n) (b₀ :: su) p1, .ExceptHandler (some (.Name y np2)) none (b₁ :: su2) p2] [] [] pos) (fun D σ H => tb (wTwo X.K X.N.length c c2 i ts ts2 D) D σ H) := by
  refine ⟨fun pins s σ H D I h => ?_⟩
  have ok := I.ok
  refine wpAny_Try_except (wpAny_mono ((hb (wTwo X.K X.N.length c c2 i ts ts2 D) (X.pn ++ pins) _ (fun u s' xx => ?_) PassesOwn.looking).run [] s σ H D (I.toTry _) h) (fun f s1 hsp => ?_) fun e s1 he => he)
  · obtain ⟨a, B, sI, pins', σ', H', cls, d, rfl, J', nb, up, sky, na, os, ag, w⟩ := xx
    have J : Inv X pins σ' H' sI := J'.ofTry ok
    have sky' : Sky B (X.env :: X.outer) a (Zc cls d) X.env.locals s'.heap := by rw [← hs]; exact sky
    refine Sky.land Zc.steady (by rw [ok.frames, hs]) hf sky' fun h3 fl up3 => ?_
    have C : Cau X pins σ' H' a cls d B { s' with heap := h3 } := ⟨fl, na, fun h fl' up' => J.landed nb fl'.1 ((up.trans up3).trans up') os ag⟩
    rcases w with ⟨m, k⟩ | ⟨m, m2, k⟩
    · exact C.named ok hN hi hl hf hc m (fun oe pn => h1 a oe cls d pn) (k J.len a na)
    · exact C.look hf hc m (fun _ => C.bare ok hf hc2 m2 (fun oe pn => h2 a oe cls d pn) (k a na)) fun z => by cases z
  · cases f with
    | next =>
      obtain ⟨σ', H', J', q⟩ := hsp
      exact wpAny_execs_nil ⟨σ', H', J'.ofTry ok, q⟩
    | brk =>
      obtain ⟨σ', H', J', q⟩ := hsp
      exact ⟨σ', H', J'.ofTry ok, q⟩
    | cont =>
      obtain ⟨σ', H', J', q⟩ := hsp
      exact ⟨σ', H', J'.ofTry ok, q⟩
    | ret u =>
      obtain ⟨v, σ', H', J', r, q⟩ := hsp
      exact ⟨v, σ', H', J'.ofTry ok, r, q⟩
end Zd
end
/-! ## L6 -/
section
set_option Elab.async false
set_option linter.all false
set_option maxRecDepth 100000
set_option maxHeartbeats 4000000
/-! a lambda is made, the other tables stay. -/
namespace Zd
open PySem PySem.Spec PyProof.Rows L2
section
variable {X : Cx} {pins : List (Addr × Obj)} {σ : L2.St} {H : Hp} {s : Shared}
theorem not_fr {f : Addr} (I : Inv X pins σ H s) (hf : s.heap.objs.size ≤ f) : f ∉ frs X.stack := fun z => by
  rcases List.mem_cons.mp (I.stkSub _ z) with e | e
  · have h1 := I.lt
    rw [← e] at h1
    exact absurd (Nat.lt_of_lt_of_le h1 hf) (Nat.lt_irrefl _)
  · exact I.nofs hf e
theorem lam_made {c P : Addr} {params : Arguments} {body : Expr} {scope : Scope} {pos : Pos} {E : Value → Shared → Prop} {Q : Value → Shared → Prop} (I : Inv X pins σ H s) (TB : LamX.TabB X.base X.mg c P) (hcode : X.env.code = .ref c)
    (hT : LamX.TabS H P (X.env.qual ++ "<lambda>")) (hdef : defaultsOf params X.env = ([], [])) (hfree : ∀ y ∈ scope.names, y.2 = .free → ∃ c, X.env.cells.lookup y.1 = some c)
    (h : ∀ (f c' : Addr) (pm ctv : Value) (H1 : Hp) (s' : Shared), Inv X pins σ H1 s' → (∀ b o, b ≠ P → H b = some o → H1 b = some o) → LamX.TabS H1 P (X.env.qual ++ "<lambda>") →
      s'.heap.get? f = some (PySem.W.kla_obj "<lambda>" (X.env.qual ++ "<lambda>") params body scope (cloFrom X.env.cells scope.names []) pm c' ctv) → H1 f = none → f ∉ frs X.stack → H1 c' = some (LamX.CodeO c' (X.env.qual ++ "<lambda>")) → Q (.ref f) s') :
    wpAny (model X.prog X.w) X.A (eval (.Lambda params body scope pos) X.env) Q E s := by
  obtain ⟨ps, hP, tri, among⟩ := hT
  have bP : s.heap.BuiltinsAt X.mg P := TB.bm.keeps I.bk
  have oP : s.heap.get? P = some { cls := .none, data := .fields ps } := I.hok P _ hP
  have cd := TB.code.keeps I.bk
  have gl := I.mod.glob.keeps I.bk
  refine PySem.W.kla_eval hdef ?_
  rcases q : codeAmong pos ps.toList with _ | cv
  · refine PySem.W.kla_makeFunction (mg := X.mg) (c := c) (P := P) (ps := ps) (closure_ok hfree) I.ok.glob gl hcode cd oP tri q TB.gP bP fun c' ctv h' tk hx hge hlt hrec htb => ?_
    obtain ⟨c2, oc, vs, t, e2, hoc, hd, hv⟩ := hrec
    cases e2
    have nC : H c' = none := I.hok.fresh hge
    have big : s.heap.objs.size ≤ h'.objs.size := Nat.le_trans hge (Nat.le_of_lt hlt)
    have J := LamX.inv_table (t' := tk) (q := X.env.qual ++ "<lambda>") (more := #[rawInt pos.line, rawInt pos.col, .ref c']) (h' := h'.push (PySem.W.kla_obj "<lambda>" (X.env.qual ++ "<lambda>") params body scope (cloFrom X.env.cells scope.names []) ((X.mg "__name__").getD .none) c' ctv)) I hP
      (fun b o hb e => Heap.get?_push_of_some _ (hx b o hb e)) (Heap.get?_push_of_some _ htb) hge ⟨oc, vs, t, Heap.get?_push_of_some _ hoc, hd, hv⟩
    have keep : ∀ b o, b ≠ P → H b = some o → upd (upd H P (.tbl (ps ++ #[rawInt pos.line, rawInt pos.col, .ref c']))) c' (LamX.CodeO c' (X.env.qual ++ "<lambda>")) b = some o := fun b o hb e => by
      rw [upd_ne (ne_of_none e nC), upd_ne hb]
      exact e
    have el : (ps ++ #[rawInt pos.line, rawInt pos.col, .ref c']).toList = ps.toList ++ [rawInt pos.line, rawInt pos.col, .ref c'] := Array.toList_append
    refine h h'.objs.size c' _ ctv _ _ J keep ⟨_, by rw [upd_ne (ne_of_none hP nC), upd_same], by rw [el]; exact PySem.TriplesOk_snoc _ _ _ _ tri, fun p' cv hcv => ?_⟩ (Heap.get?_push_size _ rfl) ?_ (not_fr I big) upd_same
    · rw [el] at hcv
      rcases LamX.among_app _ tri hcv with z | z
      · obtain ⟨c0, e1, e2⟩ := among p' cv z
        have nP : c0 ≠ P := fun z => by
          rw [z, hP] at e2
          exact LamX.codeO_ne ps (Option.some.inj e2).symm
        exact ⟨c0, e1, keep c0 _ nP e2⟩
      · exact ⟨c', z, upd_same⟩
    · rw [upd_ne (Nat.ne_of_gt hlt), upd_ne (Nat.ne_of_gt (Nat.lt_of_lt_of_le (Heap.lt_size oP) big))]
      exact I.hok.fresh big
  · obtain ⟨c', rfl, hco⟩ := among pos cv q
    refine PySem.W.kla_makeFunctionHit (mg := X.mg) (c := c) (P := P) (ps := ps) (closure_ok hfree) I.ok.glob gl hcode cd oP tri q bP fun ctv h' tk hx big => ?_
    exact h h'.objs.size c' _ ctv H _ (I.kept fun b o e => Heap.get?_push_of_some _ (hx b o e)) (fun _ _ _ e => e) ⟨ps, hP, tri, among⟩ (Heap.get?_push_size _ rfl) (I.hok.fresh big) (not_fr I big) hco
end
section
variable {c : Cg} {B H H1 : Hp} {M : Mp}
theorem Wd.made (w : Wd c B M H) (k : ∀ b o, b ≠ c.PL → H b = some o → H1 b = some o) (t : LamX.TabS H1 c.PL c.qL) : Go c M H B M H1 B := by
  obtain ⟨ps, hP, _, _⟩ := w.t.2.2.1
  have nP : ∀ b o, H b = some o → NT o → b ≠ c.PL := fun b o e n z => by
    rw [z, hP] at e
    exact n ps (Option.some.inj e).symm
  have w1 : Wd c B M H1 := by
    refine ⟨fun a o e => ?_, fun a o e => ?_, ?_⟩
    · obtain ⟨n, m, x⟩ := w.b a o e
      exact ⟨n, m, k a o (nP a o x n) x⟩
    · obtain ⟨u, r, x⟩ := w.m a o e
      exact ⟨u, r, k a u (nP a u x r.nt) x⟩
    · obtain ⟨⟨p1, a1, b1⟩, ⟨p2, a2, b2⟩, _, n1, n2, n3⟩ := w.t
      exact ⟨⟨p1, k _ _ n2 a1, b1⟩, ⟨p2, k _ _ n3 a2, b2⟩, t, n1, n2, n3⟩
  refine ⟨w1, fun _ _ e => e, fun a o e n _ => k a o (nP a o e n) e, fun _ _ _ e => e, fun a o e => ?_, fun _ _ _ e => e⟩
  by_cases h : a = c.PL
  · obtain ⟨ps', h', _⟩ := t
    exact ⟨_, by rw [h]; exact h'⟩
  · exact ⟨o, k a o h e⟩
end
end Zd
end
/-! ## L7 -/
section
set_option Elab.async false
set_option linter.all false
set_option maxRecDepth 100000
set_option maxHeartbeats 4000000
/-! _law_told(lambda: ..). -/
namespace Zd
open PySem PySem.Spec PyProof.Rows L2
/-- what _law_told gives of a call -/
def vO : Out → Sl
  | .rt d _ => d
  | .ex (.text n) _ => I n
  | .ex .story _ => S "story"
  | .nx _ _ => .no
def mO : Out → Mp
  | .rt _ M => M
  | .ex _ M => M
  | .nx _ M => M
structure Tr (c : Cg) (mg : Str → Option Value) (base : Heap) : Prop extends Tq c mg base where
  st : PySem.W.exmOne c.K (.ref c.CS) (.ref c.CT) = some false
  ss : PySem.W.exmOne c.K (.ref c.CS) (.ref c.CS) = some true
  sk : "law.<locals>.<lambda>" = c.qL
theorem sc_law_told : FnScope ["_law_work", "e"] ["_law_work"] (defScope s_law_told) := ⟨rfl, rfl, rfl, by decide +kernel, rfl, by decide +kernel, by decide +kernel⟩
/-- the exceptions that the clauses take -/
def EchT (c : Cg) (Q : VK) : XK := fun cls d H' => (∃ (n : Int) (dd : Addr), cls = .ref c.CT ∧ d = some dd ∧ H' dd = some (.xd [(("line" : Str), .int n)]) ∧ Q (.int n) H') ∨ (cls = .ref c.CS ∧ Q (.str "story") H')
theorem ko_told {c : Cg} {M : Mp} {H B : Hp} {o : Out} {Q : VK} (ho : ∀ ds' M', o ≠ .nx ds' M') (q : ∀ v B' H', Go c M H B (mO o) H' B' → SlV B' (vO o) v → Q v H') : KO c (EchT c Q) { nx := fun _ _ => False, rt := Q } M H B o := by
  cases o with
  | nx ds' M' => exact absurd rfl (ho ds' M')
  | rt d M' => exact q
  | ex e M' =>
    cases e with
    | text n => exact fun d H' B' g hd => .inl ⟨n, d, rfl, rfl, hd, q _ B' H' g (.int n)⟩
    | story => exact fun H' B' g => .inr ⟨rfl, q _ B' H' g (.str _)⟩
section
variable {X : Cx} {c : Cg} {ds : List Sl} {M : Mp} {o : Out}
theorem told_body {f c' g : Addr} {cdg : Value} {s : Shared} {H : Hp} {Q : VK} {q : Str} {tl : XK → Hp → VK → Prop} (T : Tr c X.mg X.base) (hK : X.K = c.K)
    (act : ∀ (W : WX) (pn : List (Addr × Obj)) (xe : Value → Shared → Prop) (E : XK) (p1 p2 : Pos), Takes ((cxOf C8.CX0 X.prog X.w X.K X.mg X.base ["_law_work", "e"] "_law_told" (defScope s_law_told) g cdg X.A X.stack s H C8.E0).tr pn xe) W → (∀ cls d σ' H', E cls d H' → W cls d σ' H') →
      PE ((cxOf C8.CX0 X.prog X.w X.K X.mg X.base ["_law_work", "e"] "_law_told" (defScope s_law_told) g cdg X.A X.stack s H C8.E0).tr pn xe) (.Call (.Name "_law_work" p1) [] [] p2) (fun σZ HZ Q => σZ[0]? = some (some (.ref f)) ∧ HZ c' = some (LamX.CodeO c' q) ∧ tl E HZ Q))
    (hc : H c' = some (LamX.CodeO c' q)) (hq : tl (EchT c Q) H Q) :
    ∃ t, PSs (cxOf C8.CX0 X.prog X.w X.K X.mg X.base ["_law_work", "e"] "_law_told" (defScope s_law_told) g cdg X.A X.stack s H C8.E0) (defBody s_law_told) t ∧ t { nx := fun _ H' => Q .non H', rt := Q } (L2.start ["_law_work", "e"] [.ref f]) H := by
  obtain ⟨fI, xT⟩ := T.xT
  have xS := T.xS
  have xf : XfC X.K c.CT := by rw [hK]; exact ⟨xT.ga, xT.gg, xT.exC, xT.hdC⟩
  have no : PySem.W.findIn X.K (.ref c.CT) "line" = some none := by rw [hK]; exact xT.noN
  refine ⟨_, pss_one (ps_try_two (X := cxOf C8.CX0 X.prog X.w X.K X.mg X.base ["_law_work", "e"] "_law_told" (defScope s_law_told) g cdg X.A X.stack s H C8.E0) (c := .ref c.CT) (c2 := .ref c.CS) (i := 1)
    (tb := fun W D σ HZ => ∃ Ech : XK, (∀ cls d σ' H', Ech cls d H' → W cls d σ' H') ∧ σ[0]? = some (some (.ref f)) ∧ HZ c' = some (LamX.CodeO c' q) ∧ tl Ech HZ D.rt)
    rfl rfl sc_law_told.nd rfl rfl ⟨rfl, by decide, .inl xT.gC⟩ ⟨rfl, by decide, .inl xS.g⟩ (fun W pn xe tk _ => ?_) (fun a oe cls d pn hz hd => pss_one (ps_ret (pe_xf xf no hz hd (pe_var (i := 1) rfl (.inl rfl))))) (fun a oe cls d pn hz hd => pss_one (ps_ret pe_str))), ?_⟩
  · refine ⟨fun pins s' σ H' D I ⟨Ech, hW, h1, h2, h3⟩ => ?_⟩
    exact (pss_one (ps_ret (act W pn xe Ech _ _ tk hW))).run pins s' σ H' D I ⟨h1, h2, h3⟩
  · refine ⟨EchT c Q, fun cls d σ' H' h => ?_, rfl, hc, hq⟩
    rcases h with ⟨n, dd, rfl, rfl, hd, hq⟩ | ⟨rfl, hq⟩
    · refine .inl ⟨by rw [show X.K = c.K from hK]; exact xT.te, fun ln a na => ?_⟩
      exact ⟨.ref a, by rw [List.getElem?_set_self (by rw [ln]; exact (by decide : 1 < 2))], rfl, rfl, dd, _, _, rfl, hd, rfl, hq⟩
    · exact .inr ⟨by rw [show X.K = c.K from hK]; exact T.st, by rw [show X.K = c.K from hK]; exact T.ss, fun a na => hq⟩
theorem d_told {cc : Addr} {params : Arguments} {body : Expr} {scope : Scope} {k : Nat} {p lpos pos : Pos} (T : Tr c X.mg X.base) (TB : GxR.TabB X.base X.mg cc c.PL) (hcode : X.env.code = .ref cc) (hr : Room (k + 2) X.A) (L : LamX.LamS X.env.scope scope)
    (hbody : ∀ (A : Around) (outer : List Env) (s : Shared) (H : Hp) (E : XK) (f c' : Addr), Room k (A.deeper (LamX.lamEnv X scope s.heap.objs.size f c')) → PE (LamX.lamCx X A outer s H E scope f c') body (tCX c E ds M o))
    (ho : ∀ ds' M', o ≠ .nx ds' M') (hg : Gl X "_law_told" := by rfl) (hdef : defaultsOf params X.env = ([], []) := by rfl)
    (hbind : ∀ (q : Str) (cl : List (Str × Addr)) (pm cv ctv : Value), bindArgs (PySem.W.kla_fn "<lambda>" q params body scope cl pm cv ctv) ⟨[], []⟩ = pure [] := by intro _ _ _ _ _; rfl)
    (hq : X.env.qual ++ "<lambda>" = "law.<locals>.<lambda>" := by rfl) (hK : X.K = c.K := by rfl) :
    PE X (.Call (.Name "_law_told" p) [.Lambda params body scope lpos] [] pos) (tD c ds M (vO o) (mO o)) := by
  obtain ⟨g, fd, ⟨⟨oc, od, kV, doc, pm, an, cdv, ct, osl, rfl, lk, hcd⟩, kp⟩, hm, bi⟩ := T.d_law_told
  refine ⟨fun pins s σ H Q I h => ?_⟩
  obtain ⟨B, w, sl, q⟩ := h
  refine wpAny_Call_Name_kw (ld_glob I hg hm ?_ (by decide))
  rw [← hK] at kp lk hcd bi
  refine PySem.W.callWith_K (h₀ := X.base) I.ok.mod.kin kp ?_ (by rfl) (by rfl)
  show wpAny _ _ (spliced ((false, eval (.Lambda params body scope lpos) X.env) :: backTo pos (starEach [] X.env))) _ _ s
  have tab : LamX.TabS H c.PL (X.env.qual ++ "<lambda>") := by
    rw [hq, T.sk]
    exact w.t.2.2.1
  refine Calls.spliced_cons (lam_made I ⟨TB.code, TB.bm, TB.gP⟩ hcode tab hdef (L.has I.ok) fun f c' pm' ctv H1 s' I1 kH T1 hf hfn hfr hco => ?_)
  refine Calls.spliced_nil ⟨I1.kIn, ?_⟩
  have g1 : Go c M H B M H1 B := w.made kH (by rw [hq, T.sk] at T1; exact T1)
  have rc : codeAny (model X.prog X.w) X.A (.call (.ref g) ⟨[.ref f], []⟩) (CR C8.CX0 X.stack X.prog X.w H1 s' Q C8.E0) s' := by
    refine LamX.run_ofS (N := ["_law_work", "e"]) (ps := ["_law_work"]) (us := [.ref f]) (vs := [.ref f]) lk hcd sc_law_told hr I1.env0 (bi s' [.ref f] I1.kIn rfl) (.cons rfl .nil) rfl fun hr' => ?_
    exact told_body (q := X.env.qual ++ "<lambda>") (tl := fun E H' Q' => tCX c E ds M o σ H' Q') T hK (fun W pn xe E p1 p2 tk hW => LamX.pe_act (i := 0) I1 L hf hfn hfr (hbind _ _ _ _ _) tk hW hr' (fun A outer s H hr2 => hbody A outer s H E f c' hr2) rfl (.inl rfl)) hco
      ⟨B, g1.w, sl, ko_told ho fun v B' H' g2 sv => q v B' H' (g1.trans g2) sv⟩
  refine wpAny_call (codeAny_mono rc fun r s2 hq => ?_)
  cases r with
  | error e => exact (show False from hq).elim
  | ok fl =>
    cases fl with
    | ret u => exact I1.after hq
    | next => exact False.elim hq
    | brk => exact False.elim hq
    | cont => exact False.elim hq
end
end Zd
end
/-! ## P5 -/
section
set_option Elab.async false
set_option linter.all false
set_option maxRecDepth 100000
set_option maxHeartbeats 4000000
/-! Plain laws: a written almanac is read as it was. -/
namespace Zd
open PySem PySem.Spec PyProof.Rows L2
theorem sp1_word (s : Nat) (x : List Nat) : ∀ (a acc : List Nat), s ∉ a → sp1 s acc (a ++ s :: x) = (acc ++ a) :: sp1 s [] x
  | [], acc, _ => by
    rw [List.append_nil]
    show (if s = s then acc :: sp1 s [] x else sp1 s (acc ++ [s]) x) = _
    rw [if_pos rfl]
  | d :: a, acc, h => by
    show sp1 s acc (d :: (a ++ s :: x)) = _
    have hd : ¬ d = s := fun e => h (by rw [e]; exact List.mem_cons_self)
    have ih := sp1_word s x a (acc ++ [d]) fun m => h (List.mem_cons_of_mem _ m)
    conv => lhs; unfold sp1
    rw [if_neg hd, ih, List.append_assoc]
    rfl
theorem sp1_end0 (s : Nat) : ∀ (a acc : List Nat), s ∉ a → sp1 s acc a = [acc ++ a]
  | [], acc, _ => by rw [List.append_nil]; rfl
  | d :: a, acc, h => by
    have hd : ¬ d = s := fun e => h (by rw [e]; exact List.mem_cons_self)
    have ih := sp1_end0 s a (acc ++ [d]) fun m => h (List.mem_cons_of_mem _ m)
    conv => lhs; unfold sp1
    rw [if_neg hd, ih, List.append_assoc]
    rfl
theorem wds_map (x : Str) : (wds x).map TL.tl = sp1 32 [] (TL.tl x) := split_sp1 (by decide +kernel) (by decide +kernel)
theorem wds_cons {a x : Str} (h : word a) : wds (a ++ (" " ++ x)) = a :: wds x := by
  apply TL.map_tl_inj
  rw [wds_map, List.map_cons, wds_map, TL.tl_append, TL.tl_append]
  exact sp1_word 32 (TL.tl x) (TL.tl a) [] h.ns
theorem wds_one {a : Str} (h : word a) : wds a = [a] := by
  apply TL.map_tl_inj
  rw [wds_map]
  exact sp1_end0 32 (TL.tl a) [] h.ns
theorem sapp (x y z : Str) : x ++ y ++ z = x ++ (y ++ z) := by
  apply TL.ext_tl
  rw [TL.tl_append, TL.tl_append, TL.tl_append, TL.tl_append, List.append_assoc]
theorem wds_join {ps : List Str} (ne : ps ≠ []) (h : ∀ p ∈ ps, word p) : wds (Txt.join " " ps) = ps :=
  TL.split_join (s := 32) (S := []) (by decide +kernel) (by decide +kernel) ne fun p hp => (h p hp).ns
theorem w_lit {x : Str} (h : (TL.tl x).all (fun ch => decide (33 ≤ ch) && decide (ch < 128)) = true) : word x := word_dec h
theorem one_read {n : Int} (h0 : 0 ≤ n) (h1 : n < 400) (a : Str) (ha : word a) : oneOf (a ++ (" " ++ numS n)) a = some n := by
  obtain ⟨e, w⟩ := num_ok h0 h1
  unfold oneOf
  rw [wds_cons ha, wds_one w]
  show (if (decide (2 = 2) && decide (a = a)) = true then numOf (numS n) else none) = some n
  rw [decide_eq_true rfl, decide_eq_true rfl, e]
  rfl
theorem two_read {n m : Int} (h0 : 0 ≤ n) (h1 : n < 400) (g0 : 0 ≤ m) (g1 : m < 400) (a : Str) (ha : word a) : twoOf (a ++ (" " ++ (numS n ++ (" " ++ ("to" ++ (" " ++ numS m)))))) a = (some n, some m) := by
  obtain ⟨e, w⟩ := num_ok h0 h1
  obtain ⟨e2, w2⟩ := num_ok g0 g1
  unfold twoOf
  rw [wds_cons ha, wds_cons w, wds_cons (w_lit (by decide +kernel)), wds_one w2]
  show (if (decide (4 = 4) && (decide (a = a) && decide (("to" : Str) = ("to" : Str)))) = true then (numOf (numS n), numOf (numS m)) else (none, none)) = _
  rw [decide_eq_true rfl, decide_eq_true rfl, decide_eq_true rfl, e, e2]
  rfl
theorem sets_read {ns : List Int} (h : ∀ n ∈ ns, -12 ≤ n ∧ n ≤ 12 ∧ n ≠ 0) : setsOf ("set " ++ wordsOf ns) = some ns := by
  unfold setsOf wordsOf
  cases ns with
  | nil => rfl
  | cons a r =>
    rw [show (if (a :: r).isEmpty = true then ("never" : Str) else Txt.join " " ((a :: r).map signedOf)) = Txt.join " " ((a :: r).map signedOf) from rfl]
    have wd : ∀ p ∈ (a :: r).map signedOf, word p := fun p hp => by
      obtain ⟨n, hn, rfl⟩ := List.mem_map.mp hp
      have := h n hn
      exact (sig_ok this.1 this.2.1 this.2.2).2
    have e : wds ("set " ++ Txt.join " " ((a :: r).map signedOf)) = ("set" : Str) :: (a :: r).map signedOf := by
      rw [show ("set " : Str) = "set" ++ " " by decide +kernel, sapp, wds_cons (w_lit (by decide +kernel)), wds_join (by simp) wd]
    have nv : ¬ ("set " ++ Txt.join " " ((a :: r).map signedOf) : Str) = "set never" := fun z => by
      rw [z] at e
      have e2 : wds "set never" = ([("set" : Str), ("never" : Str)] : List Str) := by decide +kernel
      rw [e2] at e
      have e3 : ([("never" : Str)] : List Str) = signedOf a :: r.map signedOf := (List.cons.inj e).2
      have e4 := (List.cons.inj e3).1
      have := h a List.mem_cons_self
      have s := (sig_ok this.1 this.2.1 this.2.2).1
      rw [← e4] at s
      rw [show setOf ("never" : Str) = none from by decide +kernel] at s
      cases s
    have good : ∀ p ∈ (a :: r).map signedOf, (setOf p).isSome = true := fun p hp => by
      obtain ⟨n, hn, rfl⟩ := List.mem_map.mp hp
      have := h n hn
      rw [(sig_ok this.1 this.2.1 this.2.2).1]
      rfl
    rw [if_neg nv, e]
    show (if (decide (("set" : Str) = ("set" : Str)) && (!((a :: r).map signedOf).isEmpty && ((a :: r).map signedOf).all fun p => (setOf p).isSome)) = true then some (((a :: r).map signedOf).map fun p => (setOf p).getD 0) else none) = _
    rw [List.all_eq_true.mpr good, decide_eq_true rfl, List.map_map]
    show some _ = some _
    congr 1
    conv => rhs; rw [← List.map_id (a :: r)]
    apply List.map_congr_left
    intro n hn
    have := h n hn
    show (setOf (signedOf n)).getD 0 = n
    rw [(sig_ok this.1 this.2.1 this.2.2).1]
    rfl
/-- a line of the first 128 signs, without a line's end -/
def line (x : Str) : Prop := ∀ ch ∈ TL.tl x, 32 ≤ ch ∧ ch < 128
theorem word.line {x : Str} (h : word x) : line x := fun ch hc => ⟨by have := (h ch hc).1; omega, (h ch hc).2⟩
theorem line.ok {x : Str} (h : line x) : okS x := fun ch hc => Nat.lt_trans (h ch hc).2 (by decide)
theorem line.nn {x : Str} (h : line x) : noNl x := fun hc => by
  have := (h 10 hc).1
  omega
theorem line.app {x y : Str} (h : line x) (g : line y) : line (x ++ y) := fun ch hc => by
  rw [TL.tl_append] at hc
  rcases List.mem_append.mp hc with m | m
  · exact h ch m
  · exact g ch m
theorem l_lit {x : Str} (h : (TL.tl x).all (fun ch => decide (32 ≤ ch) && decide (ch < 128)) = true) : line x := fun ch hc => by
  have := List.all_eq_true.mp h ch hc
  rw [Bool.and_eq_true] at this
  exact ⟨of_decide_eq_true this.1, of_decide_eq_true this.2⟩
theorem line_join : ∀ ps : List Str, (∀ p ∈ ps, line p) → line (Txt.join " " ps) := fun ps h => fun ch hc => by
  rw [TL.join_eq, TL.tl_join] at hc
  have key : ∀ qs : List (List Nat), (∀ q ∈ qs, ∀ ch ∈ q, 32 ≤ ch ∧ ch < 128) → ∀ ch ∈ TL.joinL [32] qs, 32 ≤ ch ∧ ch < 128 := by
    intro qs
    induction qs with
    | nil => intro _ ch hc; cases hc
    | cons q r ih =>
      intro h ch hc
      cases r with
      | nil => exact h q List.mem_cons_self ch hc
      | cons q2 r =>
        rcases List.mem_append.mp (show ch ∈ q ++ ([32] ++ TL.joinL [32] (q2 :: r)) from hc) with m | m
        · exact h q List.mem_cons_self ch m
        · rcases List.mem_append.mp m with m | m
          · rw [List.mem_singleton.mp m]
            decide
          · exact ih (fun q hq => h q (List.mem_cons_of_mem _ hq)) ch m
  refine key _ (fun q hq => ?_) ch hc
  obtain ⟨p, hp, rfl⟩ := List.mem_map.mp hq
  exact h p hp
theorem line_words {A : Alm} (sm : SmA A) : line (wordsOf A.ns) := by
  unfold wordsOf
  split
  · exact l_lit (by decide +kernel)
  · refine line_join _ fun p hp => ?_
    obtain ⟨n, hn, rfl⟩ := List.mem_map.mp hp
    have := sm.ns n hn
    exact (sig_ok (by omega) (by omega) this.2.2).2.line
theorem line_num {n : Int} (h0 : 0 ≤ n) (h1 : n < 400) : line (numS n) := (num_ok h0 h1).2.line
theorem lnA_line {A : Alm} (sm : SmA A) : ∀ l ∈ lnA A, line l ∧ l.length ≤ 200 := fun l hl => by
  have h1 := sm.h
  have h2 := sm.f
  have h3 := sm.l
  have h4 := sm.s
  have h5 := sm.t
  have h6 := sm.r
  have n1 := numS_40 (n := A.h) (by omega)
  have n2 := numS_40 (n := A.f) (by omega)
  have n3 := numS_40 (n := A.l) (by omega)
  have n4 := numS_40 (n := A.s) (by omega)
  have n5 := numS_40 (n := A.t) (by omega)
  have n6 := numS_40 (n := A.r) (by omega)
  have hl : l ∈ [("day " : Str) ++ numS A.h, "window " ++ numS A.f ++ " to " ++ numS A.l, "woken " ++ numS A.s ++ " to " ++ numS A.t, "set " ++ wordsOf A.ns, "rest " ++ numS A.r] := hl
  simp only [List.mem_cons, List.not_mem_nil, or_false] at hl
  have c1 : ("day " : Str).length = 4 := by decide
  have c2 : ("window " : Str).length = 7 := by decide
  have c3 : (" to " : Str).length = 4 := by decide
  have c4 : ("woken " : Str).length = 6 := by decide
  have c5 : ("set " : Str).length = 4 := by decide
  have c6 : ("rest " : Str).length = 5 := by decide
  have wl : (wordsOf A.ns).length ≤ 190 := by
    unfold wordsOf
    split
    · decide
    · have := txt_join_len " " (A.ns.map signedOf) 41 fun y hy => by
        obtain ⟨n, hn, rfl⟩ := List.mem_map.mp hy
        have := sm.ns n hn
        exact signedOf_len (Nat.lt_of_lt_of_le (show n.natAbs < 100 by omega) (by decide))
      rw [List.length_map] at this
      have nl := sm.nl
      have c7 : (" " : Str).length = 1 := by decide
      rw [c7] at this
      have : A.ns.length * (41 + 1) ≤ 4 * 42 := Nat.mul_le_mul_right _ nl
      omega
  rcases hl with rfl | rfl | rfl | rfl | rfl
  · exact ⟨(l_lit (by decide +kernel)).app (line_num (by omega) (by omega)), by rw [app_len]; omega⟩
  · exact ⟨(((l_lit (by decide +kernel)).app (line_num (by omega) (by omega))).app (l_lit (by decide +kernel))).app (line_num (by omega) (by omega)), by rw [app_len, app_len, app_len]; omega⟩
  · exact ⟨(((l_lit (by decide +kernel)).app (line_num (by omega) (by omega))).app (l_lit (by decide +kernel))).app (line_num (by omega) (by omega)), by rw [app_len, app_len, app_len]; omega⟩
  · exact ⟨(l_lit (by decide +kernel)).app (line_words sm), by rw [app_len]; omega⟩
  · exact ⟨(l_lit (by decide +kernel)).app (line_num (by omega) (by omega)), by rw [app_len]; omega⟩
theorem readA_written {A : Alm} (h : okAlm A = true) : readA (.str (writtenOf A)) = .inr A := by
  have sm := sm_of h
  obtain ⟨a1, a2, a3, a4, a5, a6, a7⟩ := and7 h
  have h1 := sm.h
  have h2 := sm.f
  have h3 := sm.l
  have h4 := sm.s
  have h5 := sm.t
  have h6 := sm.r
  have e : linesOf (.str (writtenOf A)) = .inr (lnA A) := lines_nj (fun l hl => (lnA_line sm l hl).1.nn) (by unfold lnA; simp)
  unfold readA
  rw [e]
  show readL (lnA A) = .inr A
  have q0 : rH (lnA A) = some A.h := by
    show oneOf ("day " ++ numS A.h) "day" = _
    rw [show ("day " : Str) = "day" ++ " " by decide +kernel, sapp]
    exact one_read (by omega) (by omega) "day" (w_lit (by decide +kernel))
  have q1 : rF (lnA A) = (some A.f, some A.l) := by
    show twoOf ("window " ++ numS A.f ++ " to " ++ numS A.l) "window" = _
    rw [show ("window " : Str) = "window" ++ " " by decide +kernel, show (" to " : Str) = " " ++ ("to" ++ " ") by decide +kernel]
    simp only [sapp]
    exact two_read (by omega) (by omega) (by omega) (by omega) "window" (w_lit (by decide +kernel))
  have q2 : rW (lnA A) = (some A.s, some A.t) := by
    show twoOf ("woken " ++ numS A.s ++ " to " ++ numS A.t) "woken" = _
    rw [show ("woken " : Str) = "woken" ++ " " by decide +kernel, show (" to " : Str) = " " ++ ("to" ++ " ") by decide +kernel]
    simp only [sapp]
    exact two_read (by omega) (by omega) (by omega) (by omega) "woken" (w_lit (by decide +kernel))
  have q3 : rS (lnA A) = some A.ns := sets_read fun n hn => by
    have := sm.ns n hn
    exact ⟨by omega, by omega, this.2.2⟩
  have q4 : rR (lnA A) = some A.r := by
    show oneOf ("rest " ++ numS A.r) "rest" = _
    rw [show ("rest " : Str) = "rest" ++ " " by decide +kernel, sapp]
    exact one_read (by omega) (by omega) "rest" (w_lit (by decide +kernel))
  have k0 : c0 (lnA A) = true := by unfold c0; rw [q0]; exact a1
  have k1 : c1 (lnA A) = true := by
    unfold c1
    rw [q0, q1]
    show (isNum (some A.f) 0 (A.h - 1) && isNum (some A.l) A.f (A.f + A.h - 1)) = true
    rw [a2, a3]
    rfl
  have k2 : c2 (lnA A) = true := by
    unfold c2
    rw [q2]
    show (isNum (some A.s) 1 24 && isNum (some A.t) A.s 24) = true
    rw [a4, a5]
    rfl
  have k3 : c3 (lnA A) = true := by
    unfold c3
    rw [q3, q0]
    exact a6
  have k4 : c4 (lnA A) = true := by unfold c4; rw [q4]; exact a7
  have k5 : c5 (lnA A) = true := rfl
  unfold readL
  rw [if_neg (nt k0), if_neg (nt k1), if_neg (nt k2), if_neg (nt k3), if_neg (nt k4), if_neg (nt k5), q0, q1, q2, q3, q4]
  rfl
end Zd
end
/-! ## P6 -/
section
set_option Elab.async false
set_option linter.all false
set_option maxRecDepth 100000
set_option maxHeartbeats 4000000
/-! Plain laws: a drawn story is told and read as it was. -/
namespace Zd
open PySem PySem.Spec PyProof.Rows L2
/-- a row's line -/
def rl (r : Row) : Str := numS r.1 ++ " " ++ r.2.2
def rlt (a b : Row) : Prop := a.1 < b.1 ∨ (a.1 = b.1 ∧ a.2.1 < b.2.1)
theorem scanR_snoc {A : Alm} {l : Str} : ∀ (ls : List Str) (n : Nat) (st st1 st2 : Sto), scanR A n st ls = .inr st1 → stepL A st1 l = some st2 → scanR A n st (ls ++ [l]) = .inr st2
  | [], n, st, st1, st2, h, h2 => by
    cases h
    show (match stepL A st l with | none => _ | some st' => scanR A (n + 1) st' []) = _
    rw [h2]
    rfl
  | x :: ls, n, st, st1, st2, h, h2 => by
    have h : (match stepL A st x with | none => Sum.inl (n, st) | some st' => scanR A (n + 1) st' ls) = .inr st1 := h
    show (match stepL A st x with | none => Sum.inl (n, st) | some st' => scanR A (n + 1) st' (ls ++ [l])) = .inr st2
    cases q : stepL A st x with
    | none => rw [q] at h; cases h
    | some st' =>
      rw [q] at h
      exact scanR_snoc ls (n + 1) st' st1 st2 h h2
theorem step_wok {A : Alm} {ws : List Int} {ps : List (Int × Int)} {h : Int} (h0 : 0 ≤ h) (h1 : h < 400) (k : canW A ws ps h = true) : stepL A (ws, ps) (rl (h, 1, ("woken" : Str))) = some (ws ++ [h], ps) := by
  obtain ⟨e, w⟩ := num_ok h0 h1
  have wd : wds (rl (h, 1, ("woken" : Str))) = [numS h, "woken"] := by
    show wds (numS h ++ " " ++ "woken") = _
    rw [sapp, wds_cons w, wds_one (w_lit (by decide +kernel))]
  unfold stepL
  rw [wd]
  show (match numOf (numS h) with | none => none | some h' => if (decide (2 = 2) && decide (("woken" : Str) = ("woken" : Str))) = true then (if canW A ws ps h' = true then some (ws ++ [h'], ps) else none) else _) = _
  rw [e]
  show (if (decide (2 = 2) && decide (("woken" : Str) = ("woken" : Str))) = true then (if canW A ws ps h = true then some (ws ++ [h], ps) else none) else _) = _
  rw [decide_eq_true rfl, decide_eq_true rfl]
  exact (if_pos (show (true && true) = true from rfl)).trans (if_pos k)
theorem step_set {A : Alm} {ws : List Int} {ps : List (Int × Int)} {h v : Int} (h0 : 0 ≤ h) (h1 : h < 400) (v0 : -12 ≤ v) (v1 : v ≤ 12) (vz : v ≠ 0) (k : canS A ws ps h (some v) = true) : stepL A (ws, ps) (rl (h, 0, "set " ++ signedOf v)) = some (ws, ps ++ [(h, v)]) := by
  obtain ⟨e, w⟩ := num_ok h0 h1
  obtain ⟨e2, w2⟩ := sig_ok v0 v1 vz
  have wd : wds (rl (h, 0, "set " ++ signedOf v)) = [numS h, "set", signedOf v] := by
    show wds (numS h ++ " " ++ ("set " ++ signedOf v)) = _
    rw [sapp, wds_cons w, show ("set " : Str) = "set" ++ " " by decide +kernel, sapp, wds_cons (w_lit (by decide +kernel)), wds_one w2]
  unfold stepL
  rw [wd]
  show (match numOf (numS h) with | none => none | some h' => if (decide (3 = 2) && decide (("set" : Str) = ("woken" : Str))) = true then _ else if (decide (3 = 3) && (decide (("set" : Str) = ("set" : Str)) && canS A ws ps h' (setOf (signedOf v)))) = true then some (ws, ps ++ [(h', (setOf (signedOf v)).getD 0)]) else none) = _
  rw [e]
  show (if (decide (3 = 2) && decide (("set" : Str) = ("woken" : Str))) = true then _ else if (decide (3 = 3) && (decide (("set" : Str) = ("set" : Str)) && canS A ws ps h (setOf (signedOf v)))) = true then some (ws, ps ++ [(h, (setOf (signedOf v)).getD 0)]) else none) = _
  rw [if_neg (by decide), e2, k]
  rfl
/-- the next free hour -/
def frOf (A : Alm) (ps : List (Int × Int)) : Int := if ps.isEmpty = true then 1 else (ps.getLastD (0, 0)).1 + A.r
theorem frOf_cons {A : Alm} {p q : Int × Int} {r : List (Int × Int)} : frOf A (p :: q :: r) = frOf A (q :: r) := rfl
theorem okSt_snoc {A : Alm} {en h v : Int} (he : h ≤ en) (hv : inNs v A.ns = true) : ∀ (ps : List (Int × Int)) (least : Int), okSt A en least ps = true → (if ps.isEmpty = true then least else (ps.getLastD (0, 0)).1 + A.r) ≤ h → okSt A en least (ps ++ [(h, v)]) = true
  | [], least, _, hl => by
    have hl : least ≤ h := hl
    show (isNum (some h) least en && (inNs v A.ns && true)) = true
    rw [isNum_of hl he, hv]
    rfl
  | [p], least, h1, hl => by
    have h1 : (isNum (some p.1) least en && (inNs p.2 A.ns && true)) = true := h1
    rw [Bool.and_eq_true, Bool.and_eq_true] at h1
    have hl : p.1 + A.r ≤ h := hl
    show (isNum (some p.1) least en && (inNs p.2 A.ns && okSt A en (p.1 + A.r) [(h, v)])) = true
    rw [h1.1, h1.2.1]
    show (isNum (some h) (p.1 + A.r) en && (inNs v A.ns && true)) = true
    rw [isNum_of hl he, hv]
    rfl
  | p :: q :: r, least, h1, hl => by
    have h1 : (isNum (some p.1) least en && (inNs p.2 A.ns && okSt A en (p.1 + A.r) (q :: r))) = true := h1
    rw [Bool.and_eq_true, Bool.and_eq_true] at h1
    have ih := okSt_snoc he hv (q :: r) (p.1 + A.r) h1.2.2 hl
    show (isNum (some p.1) least en && (inNs p.2 A.ns && okSt A en (p.1 + A.r) (q :: r ++ [(h, v)]))) = true
    rw [h1.1, h1.2.1, ih]
    rfl
def gapsOk (A : Alm) (ws : List Int) : Bool := (ws.zip (ws.drop 1)).all fun p => isNum (some p.2) (p.1 + A.s) (p.1 + A.t)
theorem gaps_snoc {A : Alm} {h : Int} : ∀ (ws : List Int), gapsOk A ws = true → (ws ≠ [] → ws.getLastD 0 + A.s ≤ h ∧ h ≤ ws.getLastD 0 + A.t) → gapsOk A (ws ++ [h]) = true
  | [], _, _ => rfl
  | [w], _, hl => by
    have := hl (by simp)
    have h1 : w + A.s ≤ h := this.1
    have h2 : h ≤ w + A.t := this.2
    show (isNum (some h) (w + A.s) (w + A.t) && true) = true
    rw [isNum_of h1 h2]
    rfl
  | w :: v :: r, h1, hl => by
    have h1 : (isNum (some v) (w + A.s) (w + A.t) && gapsOk A (v :: r)) = true := h1
    rw [Bool.and_eq_true] at h1
    have ih := gaps_snoc (v :: r) h1.2 fun _ => hl (by simp)
    show (isNum (some v) (w + A.s) (w + A.t) && gapsOk A (v :: r ++ [h])) = true
    rw [h1.1, ih]
    rfl
theorem inNs_of {v : Int} {ns : List Int} (h : v ∈ ns) : inNs v ns = true := by
  unfold inNs inD
  rw [List.any_eq_true]
  refine ⟨.int v, List.mem_map_of_mem h, ?_⟩
  show PyData.eqv (.int v) (.int v) = true
  simp [PyData.eqv]
structure SgI (A : Alm) (s : Sg) (h : Int) : Prop where
  run : scanR A 0 ([], []) (s.ev.map rl) = .inr (s.ws, s.ps)
  perm : (rowsP s.ws s.ps).Perm s.ev
  srt : s.ev.Pairwise rlt
  top : ∀ r ∈ s.ev, r.1 ≤ s.hr ∨ (r.2.1 = 0 ∧ r.1 ≤ h)
  hh : s.hr ≤ h
  last : s.ws.getLastD 0 = s.hr
  ne : s.ws.isEmpty = false
  fr : s.fr = frOf A s.ps
  lp : s.ps.isEmpty = false → (s.ps.getLastD (0, 0)).1 ≤ h
  w0 : s.ws.getD 0 1 = 0
  gp : gapsOk A s.ws = true
  st : ∀ en, h ≤ en → okSt A en 1 s.ps = true
  wb : ∀ w ∈ s.ws, 0 ≤ w ∧ w ≤ h
  pb : ∀ p ∈ s.ps, (0 ≤ p.1 ∧ p.1 ≤ h) ∧ p.2 ∈ A.ns
theorem SgI.up {A : Alm} {s : Sg} {h h' : Int} (i : SgI A s h) (l : h ≤ h') : SgI A s h' :=
  ⟨i.run, i.perm, i.srt, fun r hr => (i.top r hr).imp_right fun x => ⟨x.1, by omega⟩, by have := i.hh; omega, i.last, i.ne, i.fr, fun z => by have := i.lp z; omega, i.w0, i.gp, fun en e => i.st en (by omega), fun w hw => by have := i.wb w hw; omega, fun p hp => by have := i.pb p hp; exact ⟨by omega, this.2⟩⟩
theorem SgI.tk {A : Alm} {s : Sg} {h : Int} {t : Ds} (i : SgI A s h) : SgI A { s with t := t } h := ⟨i.run, i.perm, i.srt, i.top, i.hh, i.last, i.ne, i.fr, i.lp, i.w0, i.gp, i.st, i.wb, i.pb⟩
theorem sgi0 {A : Alm} {t : Ds} : SgI A (sg0 t) 0 := by
  refine ⟨?_, List.Perm.refl _, List.pairwise_singleton _ _, fun r hr => .inl ?_, Int.le_refl _, rfl, rfl, rfl, (fun z => by cases z), rfl, rfl, fun en _ => rfl, fun w hw => ?_, (fun p hp => by cases hp)⟩
  · exact scanR_snoc [] 0 ([], []) ([], []) _ rfl (step_wok (Int.le_refl 0) (by decide) rfl)
  · rw [List.mem_singleton.mp (show r ∈ [((0, 1, ("woken" : Str)) : Row)] from hr)]
    exact Int.le_refl 0
  · rw [List.mem_singleton.mp (show w ∈ [(0 : Int)] from hw)]
    exact ⟨Int.le_refl 0, Int.le_refl 0⟩
theorem getD_mem {ns : List Int} {i : Nat} (h : i < ns.length) : ns.getD i 0 ∈ ns := by
  rw [List.getD_eq_getElem?_getD, List.getElem?_eq_getElem h]
  exact List.getElem_mem h
theorem SgI.hit {A : Alm} {s : Sg} {a v : Int} {t : Ds} (sm : SmA A) (i : SgI A s (a - 1)) (h0 : s.hr < a) (h1 : a ≤ s.hr + A.t) (h2 : a < 400) (hn : s.ws.length < 60) (hf : s.fr ≤ a) (hv : v ∈ A.ns) :
    SgI A { s with t := t, ps := s.ps ++ [(a, v)], fr := a + A.r, ev := s.ev ++ [(a, 0, "set " ++ signedOf v)] } a := by
  have vb := sm.ns v hv
  have hr0 : 0 ≤ s.hr := by
    have := i.last
    cases q : s.ws with
    | nil => have := i.ne; rw [q] at this; cases this
    | cons w r =>
      have m : s.ws.getLastD 0 ∈ s.ws := by
        rw [q, List.getLastD_eq_getLast?, List.getLast?_eq_some_getLast (by simp)]
        exact List.getLast_mem _
      have := i.wb _ m
      omega
  have fr := i.fr
  have cs : canS A s.ws s.ps a (some v) = true := by
    unfold canS
    rw [i.ne]
    show (!(false || (false || !inNs v A.ns)) && _) = true
    rw [inNs_of hv, i.last, decide_eq_true h0, decide_eq_true h1, decide_eq_false (show ¬ s.ws.length = 60 by omega)]
    cases q : s.ps.isEmpty with
    | true => rfl
    | false =>
      have : s.fr = (s.ps.getLastD (0, 0)).1 + A.r := by
        rw [fr]
        unfold frOf
        rw [q]
        rfl
      rw [decide_eq_false (show ¬ a < (s.ps.getLastD (0, 0)).1 + A.r by omega)]
      rfl
  have ii := i.up (show a - 1 ≤ a by omega)
  refine ⟨?_, ?_, ?_, fun r hr => ?_, ii.hh, i.last, i.ne, ?_, fun _ => ?_, i.w0, i.gp, fun en e => ?_, ii.wb, fun p hp => ?_⟩
  · show scanR A 0 ([], []) ((s.ev ++ [(a, 0, "set " ++ signedOf v)]).map rl) = _
    rw [List.map_append]
    exact scanR_snoc _ 0 _ _ _ i.run (step_set (by omega) h2 (by omega) (by omega) vb.2.2 cs)
  · show (rowsP s.ws (s.ps ++ [(a, v)])).Perm (s.ev ++ [(a, 0, "set " ++ signedOf v)])
    unfold rowsP
    rw [List.map_append, List.append_assoc]
    refine (List.Perm.append_left _ List.perm_append_comm).trans ?_
    rw [← List.append_assoc]
    exact List.Perm.append_right _ i.perm
  · show (s.ev ++ [(a, 0, "set " ++ signedOf v)]).Pairwise rlt
    rw [List.pairwise_append]
    refine ⟨i.srt, List.pairwise_singleton _ _, fun x hx y hy => ?_⟩
    rw [List.mem_singleton.mp hy]
    left
    show x.1 < a
    rcases i.top x hx with z | z <;> omega
  · rcases List.mem_append.mp (show r ∈ s.ev ++ [(a, 0, "set " ++ signedOf v)] from hr) with m | m
    · exact ii.top r m
    · rw [List.mem_singleton.mp m]
      exact .inr ⟨rfl, Int.le_refl _⟩
  · show a + A.r = frOf A (s.ps ++ [(a, v)])
    unfold frOf
    rw [if_neg (by simp), getLastD_snoc]
  · show ((s.ps ++ [(a, v)]).getLastD (0, 0)).1 ≤ a
    rw [getLastD_snoc]
    exact Int.le_refl _
  · refine okSt_snoc e (inNs_of hv) _ _ (ii.st en e) ?_
    show frOf A s.ps ≤ a
    omega
  · rcases List.mem_append.mp (show p ∈ s.ps ++ [(a, v)] from hp) with m | m
    · exact ii.pb p m
    · rw [List.mem_singleton.mp m]
      exact ⟨⟨by show 0 ≤ a; omega, Int.le_refl _⟩, hv⟩
theorem SgI.wake {A : Alm} {s : Sg} {h : Int} (i : SgI A s h) (h0 : s.hr < h) (h1 : s.hr + A.s ≤ h) (h2 : h ≤ s.hr + A.t) (h3 : h < 400) (hn : s.ws.length < 60) :
    SgI A { s with hr := h, ws := s.ws ++ [h], ev := s.ev ++ [(h, 1, ("woken" : Str))] } h := by
  have hr0 : 0 ≤ s.hr := by
    have := i.last
    cases q : s.ws with
    | nil => have := i.ne; rw [q] at this; cases this
    | cons w r =>
      have m : s.ws.getLastD 0 ∈ s.ws := by
        rw [q, List.getLastD_eq_getLast?, List.getLast?_eq_some_getLast (by simp)]
        exact List.getLast_mem _
      have := i.wb _ m
      omega
  have cw : canW A s.ws s.ps h = true := by
    unfold canW
    rw [i.ne, if_neg Bool.false_ne_true, i.last, decide_eq_true hn, decide_eq_true h1, decide_eq_true h2]
    cases q : s.ps.isEmpty with
    | true => rfl
    | false => rw [decide_eq_true (i.lp q)]; rfl
  have nw : s.ws ≠ [] := fun z => by have := i.ne; rw [z] at this; cases this
  refine ⟨?_, ?_, ?_, fun r hr => .inl ?_, Int.le_refl _, getLastD_snoc _ _ _, by simp, i.fr, i.lp, ?_, gaps_snoc _ i.gp fun _ => by rw [i.last]; exact ⟨h1, h2⟩, i.st, fun w hw => ?_, i.pb⟩
  · show scanR A 0 ([], []) ((s.ev ++ [(h, 1, ("woken" : Str))]).map rl) = _
    rw [List.map_append]
    exact scanR_snoc _ 0 _ _ _ i.run (step_wok (by omega) h3 cw)
  · show (rowsP (s.ws ++ [h]) s.ps).Perm (s.ev ++ [(h, 1, ("woken" : Str))])
    unfold rowsP
    rw [List.map_append, ← List.append_assoc]
    exact List.Perm.append_right _ i.perm
  · show (s.ev ++ [(h, 1, ("woken" : Str))]).Pairwise rlt
    rw [List.pairwise_append]
    refine ⟨i.srt, List.pairwise_singleton _ _, fun x hx y hy => ?_⟩
    rw [List.mem_singleton.mp hy]
    show x.1 < h ∨ (x.1 = h ∧ x.2.1 < 1)
    rcases i.top x hx with z | z <;> omega
  · rcases List.mem_append.mp (show r ∈ s.ev ++ [(h, 1, ("woken" : Str))] from hr) with m | m
    · show r.1 ≤ h
      rcases i.top r m with z | z <;> omega
    · rw [List.mem_singleton.mp m]
      exact Int.le_refl _
  · show (s.ws ++ [h]).getD 0 1 = 0
    cases q : s.ws with
    | nil => exact absurd q nw
    | cons w r => have := i.w0; rw [q] at this; exact this
  · rcases List.mem_append.mp (show w ∈ s.ws ++ [h] from hw) with m | m
    · exact i.wb w m
    · rw [List.mem_singleton.mp m]
      exact ⟨by omega, Int.le_refl _⟩
/-! ### the loops -/
theorem stI_inv {A : Alm} {ns : List Int} {s : Sg} {a : Int} (sm : SmA A) (i : SgI A s (a - 1)) (h0 : s.hr < a) (h1 : a ≤ s.hr + A.t) (h2 : a < 400) (hn : s.ws.length < 60) : SgI A (stI A ns s a) a := by
  unfold stI
  by_cases c : (decide (s.fr ≤ a) && !A.ns.isEmpty) = true
  · rw [if_pos c]
    rw [Bool.and_eq_true, decide_eq_true_iff] at c
    by_cases d : (tk ns s.t 3).1 = 0
    · rw [if_pos d]
      have l0 : 0 < A.ns.length := by
        cases q : A.ns with
        | nil => rw [q] at c; cases c.2
        | cons x r => exact Nat.succ_pos _
      have d1 := tk_lo (ns := ns) (t := (tk ns s.t 3).2) (m := (A.ns.length : Nat)) (by omega)
      have d2 := tk_hi (ns := ns) (t := (tk ns s.t 3).2) (m := (A.ns.length : Nat)) (by omega)
      exact i.hit sm h0 h1 h2 hn c.1 (getD_mem (by omega))
    · rw [if_neg d]
      exact (i.up (by omega)).tk
  · rw [if_neg c]
    exact i.up (by omega)
theorem stJ_inv {A : Alm} {ns : List Int} {s : Sg} {g : Nat} (sm : SmA A) (i : SgI A s s.hr) (hg : (g : Int) ≤ A.t) (h2 : s.hr + g < 400) (hn : s.ws.length < 60) : ∀ j : Nat, j ≤ g → SgI A (stJ A ns s j) (s.hr + (j : Nat)) ∧ (stJ A ns s j).hr = s.hr ∧ (stJ A ns s j).ws = s.ws
  | 0, _ => ⟨i.up (by omega), rfl, rfl⟩
  | j + 1, hj => by
    obtain ⟨ih, e1, e2⟩ := stJ_inv sm i hg h2 hn j (by omega)
    show SgI A (stI A ns (stJ A ns s j) (s.hr + 1 + (j : Nat))) _ ∧ (stI A ns (stJ A ns s j) _).hr = _ ∧ (stI A ns (stJ A ns s j) _).ws = _
    rw [stI_hr, stI_ws]
    refine ⟨?_, e1, e2⟩
    rw [show s.hr + ((j + 1 : Nat) : Int) = s.hr + 1 + (j : Nat) by omega]
    refine stI_inv sm ?_ (by omega) (by omega) (by omega) (by rw [e2]; exact hn)
    rw [show s.hr + 1 + (j : Int) - 1 = s.hr + (j : Nat) by omega]
    exact ih
theorem stO2_inv {A : Alm} {ns : List Int} {s : Sg} (sm : SmA A) (i : SgI A s s.hr) (h2 : s.hr < 300) (hn : s.ws.length < 60) : SgI A (stO2 A ns s) (stO2 A ns s).hr := by
  have gb := gap_b (ns := ns) (s := s) sm
  obtain ⟨k, e1, e2⟩ := stJ_inv (ns := ns) (g := (gapOf A ns s).toNat) sm (show SgI A (stG A ns s) (stG A ns s).hr from i.tk) (by omega) (by show s.hr + _ < 400; omega) hn (gapOf A ns s).toNat (Nat.le_refl _)
  have k : SgI A (stE A ns s) (s.hr + ((gapOf A ns s).toNat : Nat)) := k
  have e1 : (stE A ns s).hr = s.hr := e1
  have e2 : (stE A ns s).ws = s.ws := e2
  rw [Int.toNat_of_nonneg (by omega)] at k
  have w := k.wake (by rw [e1]; omega) (by rw [e1]; omega) (by rw [e1]; omega) (by omega) (by rw [e2]; exact hn)
  exact w
theorem stN_inv {A : Alm} {ns : List Int} {t : Ds} (sm : SmA A) (h : 0 ≤ t.p) : ∀ n : Nat, n ≤ 9 → SgI A (stN A ns (sg0 t) n) (stN A ns (sg0 t) n).hr
  | 0, _ => sgi0
  | n + 1, hn => by
    have b := stN_b (A := A) (ns := ns) sm h n
    have h1 := b.h1
    have bw := b.w
    exact stO2_inv sm (stN_inv sm h n (by omega)) (by omega) (by omega)
/-! ### sorted rows -/
theorem rD_lt {a b : Row} (h : rlt a b) : PySem.W.dataLt (rD a) (rD b) = true := by
  unfold rD
  rw [PySem.W.dataLt_tuple, PySem.W.dataLt_cons (by simp [PySem.W.alike]), PySem.W.dataLt_cons (by simp [PySem.W.alike]), PySem.W.dataLt_int, PySem.W.dataLt_int]
  simp only [PyData.eqv, beq_iff_eq]
  rcases h with h | ⟨h1, h2⟩
  · rw [if_neg (by omega), decide_eq_true h]
  · rw [if_pos h1, if_neg (by omega), decide_eq_true h2]
theorem perm_sorted {α : Type} {R S : α → α → Prop} (hRS : ∀ a b, S b a → ¬ R a b) : ∀ (l m : List α), l.Perm m → l.Pairwise R → m.Pairwise S → l = m
  | [], m, p, _, _ => (List.Perm.nil_eq p)
  | a :: l, [], p, _, _ => by have := p.length_eq; simp at this
  | a :: l, b :: m, p, h1, h2 => by
    have h1' := List.pairwise_cons.mp h1
    have h2' := List.pairwise_cons.mp h2
    by_cases e : a = b
    · subst e
      rw [perm_sorted hRS l m (List.Perm.cons_inv p) h1'.2 h2'.2]
    · have ma : a ∈ b :: m := p.mem_iff.mp List.mem_cons_self
      have mb : b ∈ a :: l := p.mem_iff.mpr List.mem_cons_self
      have ma : a ∈ m := (List.mem_cons.mp ma).resolve_left e
      have mb : b ∈ l := (List.mem_cons.mp mb).resolve_left (Ne.symm e)
      exact absurd (h1'.1 b mb) (hRS a b (h2'.1 a ma))
theorem srt_pairwise (rs : List Row) : (srt rs).Pairwise fun a b => PySem.W.dataLt (rD b) (rD a) = false := by
  have h := List.pairwise_mergeSort (le := PySem.W.dataLe false rD) (fun a b c h1 h2 => ?_) (fun a b => ?_) rs
  · exact h.imp fun {a b} h => by
      have h : (!PySem.W.dataLt (rD b) (rD a)) = true := h
      simpa using h
  · have h1 : (!PySem.W.dataLt (rD b) (rD a)) = true := h1
    have h2 : (!PySem.W.dataLt (rD c) (rD b)) = true := h2
    show (!PySem.W.dataLt (rD c) (rD a)) = true
    rw [Bool.not_eq_true'] at h1 h2 ⊢
    cases q : PySem.W.dataLt (rD c) (rD a) with
    | false => rfl
    | true =>
      rcases PyProof.Rows.lex_negTrans _ (PySem.W.keyToks (rD b)) _ q with z | z
      · exact absurd (z.symm.trans h2) (by decide)
      · exact absurd (z.symm.trans h1) (by decide)
  · show (!PySem.W.dataLt (rD b) (rD a) || !PySem.W.dataLt (rD a) (rD b)) = true
    cases q : PySem.W.dataLt (rD b) (rD a) with
    | false => rfl
    | true =>
      cases q2 : PySem.W.dataLt (rD a) (rD b) with
      | false => rfl
      | true =>
        have := PyProof.Rows.lex_trans _ _ _ q q2
        rw [PyProof.Rows.lex_irrefl] at this
        cases this
theorem srt_of {rs ev : List Row} (p : rs.Perm ev) (h : ev.Pairwise rlt) : srt rs = ev :=
  perm_sorted (R := fun a b => PySem.W.dataLt (rD b) (rD a) = false) (S := rlt) (fun a b s r => by rw [rD_lt s] at r; cases r) _ _ ((List.mergeSort_perm _ _).trans p) (srt_pairwise rs) h
end Zd
end
/-! ## P7 -/
section
set_option Elab.async false
set_option linter.all false
set_option maxRecDepth 100000
set_option maxHeartbeats 4000000
/-! Plain laws: what the law asks of a drawn story. -/
namespace Zd
open PySem PySem.Spec PyProof.Rows L2
def rowL (r : Row) : Row := (r.1, r.2.1, " " ++ r.2.2)
def rowsL (ws : List Int) (ps : List (Int × Int)) : List Row := (ps.map fun p => ((p.1, 0, " set " ++ signedOf p.2) : Row)) ++ ws.map fun w => ((w, 1, (" woken" : Str)) : Row)
theorem rowsL_map (ws : List Int) (ps : List (Int × Int)) : rowsL ws ps = (rowsP ws ps).map rowL := by
  unfold rowsL rowsP
  rw [List.map_append, List.map_map, List.map_map]
  congr 1
  · apply List.map_congr_left
    intro p _
    show ((p.1, 0, " set " ++ signedOf p.2) : Row) = (p.1, 0, " " ++ ("set " ++ signedOf p.2))
    rw [← sapp, show (" set " : Str) = " " ++ "set " by decide +kernel]
theorem rowL_line (r : Row) : numS (rowL r).1 ++ (rowL r).2.2 = rl r := by
  show numS r.1 ++ (" " ++ r.2.2) = numS r.1 ++ " " ++ r.2.2
  rw [sapp]
structure StG (A : Alm) (s : Sg) : Prop where
  ok : okStory A s.ws s.ps = true
  sm : SmS s.ws s.ps
  told : toldOf s.ws s.ps = joinNl (s.ev.map rl)
  rows : srt (rowsL s.ws s.ps) = s.ev.map rowL
  read : readS A (.str (joinNl (s.ev.map rl))) = .inr (s.ws, s.ps)
  line : ∀ l ∈ s.ev.map rl, line l ∧ l.length ≤ 200
  len : s.ev.length ≤ 240
  ne : s.ev ≠ []
  t : 0 ≤ s.t.p
  last : s.ws.getLastD 0 = s.hr
  wne : s.ws.isEmpty = false
  h0 : 0 ≤ s.hr
  h1 : s.hr ≤ 240
  v : ∀ p ∈ s.ps, -12 ≤ p.2 ∧ p.2 ≤ 12 ∧ p.2 ≠ 0
  b : ∀ r ∈ s.ev, 0 ≤ r.1 ∧ r.1 < 400
theorem stG_of {A : Alm} {ns : List Int} {t : Ds} (hp : 0 ≤ t.p) (sm : SmA A) : StG A (drS A ns t 9) := by
  have lo := tk_lo (ns := ns) (t := t) (m := 9) (by omega)
  have hi := tk_hi (ns := ns) (t := t) (m := 9) (by omega)
  have i := stN_inv (A := A) (ns := ns) sm (tk_p (ns := ns) (m := 9) hp) (tk ns t 9).1.toNat (by omega)
  have b := stN_b (A := A) (ns := ns) sm (tk_p (ns := ns) (m := 9) hp) (tk ns t 9).1.toNat
  have i : SgI A (drS A ns t 9) (drS A ns t 9).hr := i
  have b : SgB (tk ns t 9).1.toNat 0 (drS A ns t 9) := b
  generalize drS A ns t 9 = s at i b
  have h1 := b.h1
  have h0 := b.h0
  have hb : s.hr ≤ 216 := by omega
  have bw := b.w
  have bl := b.l
  have evl : s.ev.length = s.ps.length + s.ws.length := by
    rw [← i.perm.length_eq]
    unfold rowsP
    rw [List.length_append, List.length_map, List.length_map]
  have vv : ∀ p ∈ s.ps, -12 ≤ p.2 ∧ p.2 ≤ 12 ∧ p.2 ≠ 0 := fun p hp => by
    have := sm.ns _ (i.pb p hp).2
    omega
  have rb : ∀ r ∈ s.ev, (0 ≤ r.1 ∧ r.1 < 400) ∧ (∃ v, -12 ≤ v ∧ v ≤ 12 ∧ v ≠ 0 ∧ r.2.2 = "set " ++ signedOf v) ∨ (0 ≤ r.1 ∧ r.1 < 400) ∧ r.2.2 = ("woken" : Str) := fun r hr => by
    have m := i.perm.mem_iff.mpr hr
    unfold rowsP at m
    rcases List.mem_append.mp m with m | m
    · obtain ⟨p, hp, rfl⟩ := List.mem_map.mp m
      have q := i.pb p hp
      exact .inl ⟨⟨q.1.1, by show p.1 < 400; omega⟩, p.2, (vv p hp).1, (vv p hp).2.1, (vv p hp).2.2, rfl⟩
    · obtain ⟨w, hw, rfl⟩ := List.mem_map.mp m
      have q := i.wb w hw
      exact .inr ⟨⟨q.1, by show w < 400; omega⟩, rfl⟩
  have ln : ∀ l ∈ s.ev.map rl, line l ∧ l.length ≤ 200 := fun l hl => by
    obtain ⟨r, hr, rfl⟩ := List.mem_map.mp hl
    have sp : (" " : Str).length = 1 := by decide
    have key : ∀ (x : Str), line x → x.length ≤ 50 → (0 ≤ r.1 ∧ r.1 < 400) → line (numS r.1 ++ " " ++ x) ∧ (numS r.1 ++ " " ++ x).length ≤ 200 := fun x h1 h2 h3 => by
      refine ⟨((line_num h3.1 h3.2).app (l_lit (by decide +kernel))).app h1, ?_⟩
      have := numS_40 (n := r.1) (by omega)
      rw [app_len, app_len]
      omega
    rcases rb r hr with ⟨h, v, v0, v1, v2, e⟩ | ⟨h, e⟩
    · show line (numS r.1 ++ " " ++ r.2.2) ∧ (numS r.1 ++ " " ++ r.2.2).length ≤ 200
      rw [e]
      refine key _ ((l_lit (by decide +kernel)).app (sig_ok v0 v1 v2).2.line) ?_ h
      have h1 := signedOf_len (n := v) (Nat.lt_of_lt_of_le (show v.natAbs < 100 by omega) (by decide))
      have h2 : ("set " : Str).length = 4 := by decide
      rw [app_len]
      omega
    · show line (numS r.1 ++ " " ++ r.2.2) ∧ (numS r.1 ++ " " ++ r.2.2).length ≤ 200
      rw [e]
      exact key _ (l_lit (by decide +kernel)) (by decide) h
  have wne : s.ws ≠ [] := fun z => by have := i.ne; rw [z] at this; cases this
  have evne : s.ev ≠ [] := fun z => by rw [z] at evl; rw [List.length_nil] at evl; omega
  have srtE : srt (rowsP s.ws s.ps) = s.ev := srt_of i.perm i.srt
  refine ⟨?_, ⟨by omega, by omega, fun x hx => by have := i.wb x hx; omega, fun p hp => by have := i.pb p hp; have := vv p hp; omega⟩, ?_, ?_, ?_, ln, by omega, evne, b.p, i.last, i.ne, h0, by omega, vv, fun r hr => by rcases rb r hr with z | z <;> exact z.1⟩
  · unfold okStory okWak
    simp only [Bool.and_eq_true]
    refine ⟨⟨decide_eq_true (by omega), decide_eq_true (by omega), ?_, i.gp⟩, ?_⟩
    · rw [i.w0]
      rfl
    · rw [i.last]
      exact i.st _ (Int.le_refl _)
  · unfold toldOf joinNl
    rw [srtE, List.map_map]
    rfl
  · rw [rowsL_map]
    refine srt_of (i.perm.map rowL) ?_
    rw [List.pairwise_map]
    exact i.srt.imp fun {a b} h => h
  · unfold readS
    rw [lines_nj (fun l hl => (ln l hl).1.nn) (by simpa using evne)]
    show readSL A (s.ev.map rl) = _
    unfold readSL
    rw [i.run]
    show finS (s.ev.map rl) (s.ws, s.ps) = _
    unfold finS
    refine if_neg ?_
    show ¬ ((!s.ps.isEmpty) && decide (s.ws.getLastD 0 < (s.ps.getLastD (0, 0)).1)) = true
    rw [i.last]
    cases q : s.ps.isEmpty with
    | true => exact nofun
    | false =>
      have := i.lp q
      rw [decide_eq_false (by omega)]
      exact nofun
/-! ### stories that are none -/
theorem bad_1 {A : Alm} : okStory A [1] [] = false := rfl
theorem bad_0 {A : Alm} : okStory A [] [] = false := rfl
theorem isNum_no {i lo hi : Int} (h : ¬ (lo ≤ i ∧ i ≤ hi)) : isNum (some i) lo hi = false := by
  show (decide (lo ≤ i) && decide (i ≤ hi)) = false
  rw [Bool.and_eq_false_iff]
  by_cases h1 : lo ≤ i
  · exact .inr (decide_eq_false fun h2 => h ⟨h1, h2⟩)
  · exact .inl (decide_eq_false h1)
theorem bad_late {A : Alm} : okStory A [0, A.t + 1] [] = false := by
  show ((isNum (some 0) 0 0 && (isNum (some (A.t + 1)) (0 + A.s) (0 + A.t) && true)) && true) = false
  rw [isNum_no (i := A.t + 1) (by omega)]
  rfl
theorem bad_00 {A : Alm} (h : 1 ≤ A.s) : okStory A [0, 0] [] = false := by
  show ((isNum (some 0) 0 0 && (isNum (some 0) (0 + A.s) (0 + A.t) && true)) && true) = false
  rw [isNum_no (lo := 0 + A.s) (by omega)]
  rfl
theorem bad_set {A : Alm} {ws : List Int} : okStory A ws [(0, 1)] = false := by
  show (okWak A ws && (isNum (some 0) 1 (ws.getLastD 0) && _)) = false
  rw [isNum_no (by omega), Bool.false_and, Bool.and_false]
end Zd
end
/-! ## L8 -/
section
set_option Elab.async false
set_option linter.all false
set_option maxRecDepth 100000
set_option maxHeartbeats 4000000
/-! law: what stands around its walk. -/
namespace Zd
open PySem PySem.Spec PyProof.Rows L2
section
variable {X : Cx} {c : Cg} {E : XK} {ds : List Sl} {M : Mp} {o : Out} {pos : Pos} {rest : List Stmt}
/-- x = [..], a list that will be written, forgotten where the block ends -/
theorem b_row (i : Nat) {x : Str} {es : List Expr} {as : List Sl} {p1 pos2 : Pos} (hN : X.N.Nodup) (h : PA X es (tDs c ds M as M)) (hl : as.length ≤ 100) (hrest : ∀ r, M r = none → ∃ o1, PSs X rest (tS c E (ds.set i (.raw (.ref r))) (updM M r (.lst as)) o1) ∧ Fgt M o1 o)
    (hi : X.N[i]? = some x := by rfl) (hx : Loc X.env.scope x := by first | exact Or.inl rfl | exact Or.inr rfl) (hf : X.fn x = true ∨ X.env.scope.names.lookup x = some .local := by first | exact Or.inl rfl | exact Or.inr rfl)
    (hs : swapsWith (.List es pos) (some (.Name x p1)) pos2.line X.env = pure false := by rfl) :
    PSs X (.Assign [.Name x p1] (.List es pos) pos2 :: rest) (tS c E ds M o) := by
  have hu : PSs X rest (fun D' σ H => ∃ r o1, (PSs X rest (tS c E (ds.set i (.raw (.ref r))) (updM M r (.lst as)) o1)) ∧ tS c E (ds.set i (.raw (.ref r))) (updM M r (.lst as)) o1 D' σ H) := ⟨fun pins s σ H D' I ⟨r, o1, h, hw⟩ => h.run pins s σ H D' I hw⟩
  refine PSs.to (pss_cons (ps_set hN hi hx (pe_lst h) hs hf) hu) fun D' σ H ⟨B, w, s, q⟩ => ?_
  refine ⟨B, w, s, fun vs B1 H1 g1 s1 => ⟨by rw [← s1.len]; exact Nat.le_trans hl (by decide), fun p hp => ?_⟩⟩
  have n1 : M p = none := g1.w.freeM hp
  have g2 : Go c M H1 B1 (updM M p (.lst as)) (upd H1 p (.lst vs)) B1 := Go.newM g1.w hp (.lst s1)
  have g3 := g1.trans g2
  obtain ⟨o1, hb, fg⟩ := hrest p n1
  exact ⟨p, o1, hb, B1, g3.w, Sls.set (d := .raw (.ref p)) (o := some (.ref p)) rfl i (s.mono g3.b), KO.fgt g3 fg q⟩
end
theorem fn_mkC {P : Program} {w : World} {c : Cg} {mg : Str → Option Value} {base : Heap} {x : Str} {sd : Stmt} {N ps : List Str} {k : Nat} {cc : Addr} {R : List Sl → Mp → Out → Prop} {f : Addr} {oc : Value} {od : Option Addr} {kV doc pm : Value} {an : Option Addr} {ct : Value} {osl : Array (Option Value)} (lk : c.K.lookup f = some ⟨oc, od, .func (PySem.W.fnOf x x (defArgs sd) (defBody sd) (defScope sd) .none kV doc pm an (.ref cc) ct), osl⟩) (hcd : PySem.W.codeIn c.K (.ref cc) x = true) (S : FnScope N ps (defScope sd)) (hl : ∀ as M o, R as M o → as.length = ps.length)
    (body : ∀ (as : List Sl) (M : Mp) (o : Out), R as M o → ∀ (A : Around) (outer : List Env) (s : Shared) (H : Hp) (E : XK), Room k (A.deeper (envOfC x (defScope sd) s.heap.objs.size f (.ref cc))) →
      ∃ o1, PSs (cxOf (L2.CX P w) P w c.K mg base N x (defScope sd) f (.ref cc) A outer s H E) (defBody sd) (tS c E (as ++ List.replicate (N.length - as.length) .no) M o1) ∧ (o1 = o ∨ ∃ ds' M', o1 = .nx ds' M' ∧ o = .rt (.dat .none) M')) :
    FnOk P w c.K mg base (L2.CX P w) (k + 1) f (PySem.W.fnOf x x (defArgs sd) (defBody sd) (defScope sd) .none kV doc pm an (.ref cc) ct) ps (spD c R) := by
  refine fn_of lk hcd S (fun vs H Q E h => ?_) fun A outer s H vs Q E hr h => ?_
  · obtain ⟨B, M, as, o, _, sv, hR, _⟩ := h
    rw [← sv.len, hl as M o hR]
  · obtain ⟨B, M, as, o, w, sv, hR, ko⟩ := h
    obtain ⟨o1, hb, ho⟩ := body as M o hR A outer s H E hr
    refine ⟨_, hb, B, w, ?_, ?_⟩
    · have st := Sls.start (N.length - as.length) sv
      have e : L2.start N vs = vs.map some ++ List.replicate (N.length - as.length) none := by unfold L2.start; rw [← sv.len]
      rw [e]
      exact st
    · rcases ho with e | ⟨ds', M', e1, e2⟩
      · subst e
        cases o1 with
        | nx ds' M' => exact fun σ' B' H' g s => (ko σ' B' H' g s).elim
        | rt d M' => exact ko
        | ex e M' => cases e <;> exact ko
      · subst e1 e2
        exact fun σ' B' H' g s => ko .non B' H' g .non
/-! ### what is alike -/
theorem al_ints {n : Nat} {ns : List Int} : ∀ d ∈ ns.map PyData.int, AlD n d := fun d hd => by
  obtain ⟨i, _, rfl⟩ := List.mem_map.mp hd
  exact .int
theorem al_aD {n : Nat} {A : Alm} (h : A.ns.length ≤ 90000) : AlD (n + 2) (aD A) := by
  refine .tup (fun d hd => ?_) (show 7 ≤ 90000 by decide)
  simp only [List.mem_cons, List.not_mem_nil, or_false] at hd
  rcases hd with rfl | rfl | rfl | rfl | rfl | rfl | rfl
  all_goals first | exact .int | exact .tup al_ints (by rw [List.length_map]; exact h)
theorem al_sD {n : Nat} {ws : List Int} {ps : List (Int × Int)} (h : ws.length ≤ 90000) (g : ps.length ≤ 90000) : AlD (n + 3) (sD ws ps) := by
  refine .tup (fun d hd => ?_) (show 2 ≤ 90000 by decide)
  simp only [List.mem_cons, List.not_mem_nil, or_false] at hd
  rcases hd with rfl | rfl
  · exact .tup al_ints (by rw [List.length_map]; exact h)
  · refine .tup (fun d hd => ?_) (by rw [List.length_map]; exact g)
    obtain ⟨p, _, rfl⟩ := List.mem_map.mp hd
    refine .tup (fun d hd => ?_) (show 2 ≤ 90000 by decide)
    simp only [List.mem_cons, List.not_mem_nil, or_false] at hd
    rcases hd with rfl | rfl <;> exact .int
theorem readL_ns {ls : List Str} {A : Alm} (h : readL ls = .inr A) : A.ns.length ≤ 4 := by
  unfold readL at h
  split at h
  · cases h
  split at h
  · cases h
  split at h
  · cases h
  split at h
  · cases h
  rename_i k3
  split at h
  · cases h
  split at h
  · cases h
  cases h
  have k3 : c3 ls = true := by simpa using k3
  unfold c3 at k3
  rw [Bool.and_eq_true] at k3
  exact okSets_len k3.2
theorem al_alm {n : Nat} {D : PyData} : AlD (n + 2) (almD (readA D)) := by
  cases q : readA D with
  | inl i => exact .int
  | inr A =>
    refine al_aD ?_
    unfold readA at q
    split at q
    · cases q
    · exact Nat.le_trans (readL_ns q) (by decide)
theorem al_sto {n : Nat} {A : Alm} {D : PyData} (hA : 1 ≤ A.r) : AlD (n + 3) (stoD (readS A D)) := by
  cases q : readS A D with
  | inl i => exact .int
  | inr st =>
    have iv : IvS A st := by
      unfold readS at q
      split at q
      · cases q
      · rename_i ls _
        unfold readSL at q
        split at q
        · cases q
        · rename_i s1 e
          unfold finS at q
          split at q
          · cases q
          · cases q
            exact ivs_scan hA _ _ _ _ (ivs0 A) e
    have w := iv.w60
    have l := iv.len
    have u := iv.up
    exact al_sD (by omega) (by omega)
theorem vO_A {M : Mp} {D : PyData} : vO (outA M (readA D)) = .dat (almD (readA D)) ∧ mO (outA M (readA D)) = M := by
  cases readA D <;> exact ⟨rfl, rfl⟩
theorem vO_S {M : Mp} {A : Alm} {D : PyData} : vO (outSt M (readS A D)) = .dat (stoD (readS A D)) ∧ mO (outSt M (readS A D)) = M := by
  cases readS A D <;> exact ⟨rfl, rfl⟩
theorem outSt_nx {M : Mp} {x : Sum Int Sto} : ∀ ds' M', outSt M x ≠ .nx ds' M' := by cases x <;> exact fun _ _ => nofun
end Zd
end
/-! ## L9 -/
section
set_option Elab.async false
set_option linter.all false
set_option maxRecDepth 100000
set_option maxHeartbeats 4000000
/-! law. -/
namespace Zd
open PySem PySem.Spec PyProof.Rows L2
def RLaw (c : Cg) (as : List Sl) (M : Mp) (o : Out) : Prop := ∃ (sc : Addr) (ns : List Int), ScrAt c M sc ns ∧ as = [.raw (.ref sc)] ∧ o = .rt (Bo true) M
theorem sc_law : FnScope ["_law_script", "_law_row", "_law_almanac_here", "_law_hours", "_law_first", "_law_last", "_law_soon", "_law_late", "_law_settings", "_law_rest", "_law_words", "_law_one_here", "_law_lines_here", "_law_text", "_law_line", "_law_more", "_law_turn", "_law_value", "_law_story_here", "_law_rows_here", "_law_hour", "_law_order", "_law_word", "_law_end", "_law_bad"] ["_law_script"] (defScope s_law) := ⟨rfl, rfl, rfl, by decide +kernel, rfl, by decide +kernel, by decide +kernel⟩
def more1 : List Str := ["day 2", "day 13", "window 1 to 0", "window 0 to 1", "woken 1 to 25", "woken 0 to 1", "set never", "set", "set +1 +1", "set -1 +1", "set +0", "set 1", "rest 0", "rest 12", "rest 13", ""]
theorem lns_lit {ls : List Str} (h : (ls.all fun l => (TL.tl l).all (fun ch => decide (32 ≤ ch) && decide (ch < 128)) && decide (l.length ≤ 200)) = true) (h2 : ls.length ≤ 240) (h3 : ls ≠ []) : Lns ls := by
  have key : ∀ l ∈ ls, line l ∧ l.length ≤ 200 := fun l hl => by
    have := List.all_eq_true.mp h l hl
    rw [Bool.and_eq_true] at this
    exact ⟨l_lit this.1, of_decide_eq_true this.2⟩
  exact ⟨fun l hl => (key l hl).1.ok, fun l hl => (key l hl).2, h2, h3⟩
theorem lns_more1 : Lns more1 := lns_lit (by decide +kernel) (by decide) (by decide)
theorem lns_of {ls : List Str} (h : ∀ l ∈ ls, line l ∧ l.length ≤ 200) (h2 : ls.length ≤ 240) (h3 : ls ≠ []) : Lns ls := ⟨fun l hl => (h l hl).1.ok, fun l hl => (h l hl).2, h2, h3⟩
def tB (ns : List Int) (ls mo : List Str) (t : Ds) : Nat → Ds
  | 0 => t
  | i + 1 => btT ns ls mo (tB ns ls mo t i)
theorem tB_p {ns : List Int} {ls mo : List Str} {t : Ds} (h : Lns ls) (g : Lns mo) (hp : 0 ≤ t.p) : ∀ i, 0 ≤ (tB ns ls mo t i).p
  | 0 => hp
  | i + 1 => (btD_ok h g (tB_p h g hp i)).2
def more2 (A : Alm) (s : Sg) : List Str := ["0 woken", numS (s.hr + A.s) ++ " woken", numS (s.hr + A.t) ++ " woken", numS (s.hr + 1) ++ " set +1", "1 set -1", "2 set +1", "3 woken", "x woken", "01 woken", "4 set", "5", numS s.hr ++ " set " ++ (wds (wordsOf A.ns)).getD 0 ""]
theorem first_word {A : Alm} (sm : SmA A) : line ((wds (wordsOf A.ns)).getD 0 "") ∧ ((wds (wordsOf A.ns)).getD 0 "").length ≤ 50 := by
  unfold wordsOf
  cases q : A.ns with
  | nil => exact ⟨l_lit (by decide +kernel), by decide +kernel⟩
  | cons a r =>
    have wd : ∀ p ∈ (a :: r).map signedOf, word p := fun p hp => by
      obtain ⟨n, hn, rfl⟩ := List.mem_map.mp hp
      have := sm.ns n (by rw [q]; exact hn)
      exact (sig_ok (by omega) (by omega) this.2.2).2
    have e : (if (a :: r).isEmpty = true then ("never" : Str) else Txt.join " " ((a :: r).map signedOf)) = Txt.join " " ((a :: r).map signedOf) := rfl
    rw [e, wds_join (by simp) wd]
    have m := sm.ns a (by rw [q]; exact List.mem_cons_self)
    exact ⟨(wd (signedOf a) List.mem_cons_self).line, Nat.le_trans (signedOf_len (Nat.lt_of_lt_of_le (show a.natAbs < 100 by omega) (by decide))) (by decide)⟩
theorem lns_more2 {A : Alm} {s : Sg} (sm : SmA A) (h0 : 0 ≤ s.hr) (h1 : s.hr ≤ 240) : Lns (more2 A s) := by
  have h4 := sm.s
  have h5 := sm.t
  have fw := first_word sm
  have c1 : (" woken" : Str).length = 6 := by decide
  have c2 : (" set +1" : Str).length = 7 := by decide
  have c3 : (" set " : Str).length = 5 := by decide
  have lit : ∀ x : Str, (TL.tl x).all (fun ch => decide (32 ≤ ch) && decide (ch < 128)) = true → x.length ≤ 200 → line x ∧ x.length ≤ 200 := fun x h g => ⟨l_lit h, g⟩
  have num : ∀ (n : Int) (x : Str), 0 ≤ n → n < 400 → line x → x.length ≤ 100 → line (numS n ++ x) ∧ (numS n ++ x).length ≤ 200 := fun n x a b h g => ⟨(line_num a b).app h, by
    have := numS_40 (n := n) (by omega)
    rw [app_len]
    omega⟩
  refine lns_of (fun l hl => ?_) (show 12 ≤ 240 by decide) (by unfold more2; simp)
  have hl : l ∈ [("0 woken" : Str), numS (s.hr + A.s) ++ " woken", numS (s.hr + A.t) ++ " woken", numS (s.hr + 1) ++ " set +1", "1 set -1", "2 set +1", "3 woken", "x woken", "01 woken", "4 set", "5", numS s.hr ++ " set " ++ (wds (wordsOf A.ns)).getD 0 ""] := hl
  simp only [List.mem_cons, List.not_mem_nil, or_false] at hl
  rcases hl with rfl | rfl | rfl | rfl | rfl | rfl | rfl | rfl | rfl | rfl | rfl | rfl
  · exact lit _ (by decide +kernel) (by decide)
  · exact num _ _ (by omega) (by omega) (l_lit (by decide +kernel)) (by decide)
  · exact num _ _ (by omega) (by omega) (l_lit (by decide +kernel)) (by decide)
  · exact num _ _ (by omega) (by omega) (l_lit (by decide +kernel)) (by decide)
  · exact lit _ (by decide +kernel) (by decide)
  · exact lit _ (by decide +kernel) (by decide)
  · exact lit _ (by decide +kernel) (by decide)
  · exact lit _ (by decide +kernel) (by decide)
  · exact lit _ (by decide +kernel) (by decide)
  · exact lit _ (by decide +kernel) (by decide)
  · exact lit _ (by decide +kernel) (by decide)
  · rw [sapp]
    exact num _ _ h0 (by omega) ((l_lit (by decide +kernel)).app fw.1) (by rw [app_len]; omega)
def lawS (ns : List Int) (da : DrA) : Sg := drS da.A ns (tB ns (lnA da.A) more1 da.t 5) 9
def lawT (ns : List Int) (da : DrA) : Ds := tB ns ((lawS ns da).ev.map rl) (more2 da.A (lawS ns da)) (lawS ns da).t 5
def bads (A : Alm) (g : Sg) : List PyData := [.none, .tuple [.tuple (g.ws.map PyData.int)], .list [.tuple (g.ws.map PyData.int), psD g.ps], sD [1] [], sD [0, A.t + 1] [], sD g.ws [(0, 1)], sD [0, 0] [], sD [] []]
theorem bads_ok {A : Alm} {g : Sg} {M : Mp} (sm : SmA A) (sg : StG A g) : ∀ d ∈ bads A g, ToD A M d (.ex .story M) := fun d hd => by
  have hd : d ∈ [PyData.none, .tuple [.tuple (g.ws.map PyData.int)], .list [.tuple (g.ws.map PyData.int), psD g.ps], sD [1] [], sD [0, A.t + 1] [], sD g.ws [(0, 1)], sD [0, 0] [], sD [] []] := hd
  simp only [List.mem_cons, List.not_mem_nil, or_false] at hd
  have two : ∀ (ws : List Int) (ps : List (Int × Int)), SmS ws ps → okStory A ws ps = false → ToD A M (sD ws ps) (.ex .story M) := fun ws ps h k => by
    have z := ToD.two (A := A) (M := M) h
    rw [if_neg (by rw [k]; exact Bool.false_ne_true)] at z
    exact z
  have h4 := sm.s
  have h5 := sm.t
  have smI : ∀ ws : List Int, ws.length ≤ 100 → (∀ x ∈ ws, x.natAbs ≤ 1000000) → SmS ws [] := fun ws h1 h2 => ⟨h1, Nat.zero_le _, h2, fun p hp => by cases hp⟩
  rcases hd with rfl | rfl | rfl | rfl | rfl | rfl | rfl | rfl
  · exact .non
  · exact .tup (Nat.le_refl 1)
  · exact .lst
  · exact two _ _ (smI _ (by decide) fun x hx => by rw [List.mem_singleton.mp hx]; decide) bad_1
  · exact two _ _ (smI _ (by show 2 ≤ 100; decide) fun x hx => by
      simp only [List.mem_cons, List.not_mem_nil, or_false] at hx
      omega) bad_late
  · refine two _ _ ⟨sg.sm.wl, by decide, sg.sm.w, fun p hp => ?_⟩ bad_set
    rw [List.mem_singleton.mp hp]
    decide
  · exact two _ _ (smI _ (by decide) fun x hx => by
      simp only [List.mem_cons, List.not_mem_nil, or_false] at hx
      omega) (bad_00 h4.1)
  · exact two _ _ (smI _ (by decide) fun x hx => by cases hx) bad_0
theorem fn_law {P : Program} {w : World} {c : Cg} {mg : Str → Option Value} {base : Heap} (T : Tr c mg base) {cc f : Addr} {oc : Value} {od : Option Addr} {kV doc pm : Value} {an : Option Addr} {ct : Value} {osl : Array (Option Value)}
    (lk : c.K.lookup f = some ⟨oc, od, .func (PySem.W.fnOf "law" "law" (defArgs s_law) (defBody s_law) (defScope s_law) .none kV doc pm an (.ref cc) ct), osl⟩) (hcd : PySem.W.codeIn c.K (.ref cc) "law" = true) (TB : GxR.TabB base mg cc c.PL) :
    FnOk P w c.K mg base (L2.CX P w) 9 f (PySem.W.fnOf "law" "law" (defArgs s_law) (defBody s_law) (defScope s_law) .none kV doc pm an (.ref cc) ct) ["_law_script"] (spD c (RLaw c)) := by
  refine fn_mkC lk hcd sc_law (fun as M o ⟨_, _, _, h, _⟩ => by rw [h]; rfl) fun as M o hR A' outer s H E hr => ?_
  obtain ⟨sc, ns, hsc, rfl, rfl⟩ := hR
  refine ⟨_, ?_, .inl rfl⟩
  refine b_row 1 sc_law.nd (ds_cons (d_var 0) (ds_cons d_int (ds_cons d_int (ds_cons d_int ds_nil)))) (show 4 ≤ 100 by decide) (fun r hr0 => ?_)
  refine ⟨.rt (Bo true) ((⟨r, sc, ns, M⟩ : Rw).m (lawT ns (drA ns ⟨0, 23060, 0⟩))), ?_, .rt fun a u e => ?_⟩
  rotate_left
  · show updM M r _ a = some u
    rw [updM_ne (fun z => by rw [z, hr0] at e; cases e)]
    exact e
  show PSs _ _ (tS c E [.raw (.ref sc), .raw (.ref r), .no, .no, .no, .no, .no, .no, .no, .no, .no, .no, .no, .no, .no, .no, .no, .no, .no, .no, .no, .no, .no, .no, .no] ((⟨r, sc, ns, M⟩ : Rw).m ⟨0, 23060, 0⟩) _)
  have ok : RwOk c ⟨r, sc, ns, M⟩ := ⟨by
    rcases hsc with ⟨m, e, sm⟩ | k
    · refine .inl ⟨fun z => ?_, m, e, sm⟩
      have z : sc = r := z
      rw [z, hr0] at e
      cases e
    · exact .inr k⟩
  have er : (⟨r, sc, ns, M⟩ : Rw).r = r := rfl
  have en : (⟨r, sc, ns, M⟩ : Rw).ns = ns := rfl
  generalize (⟨r, sc, ns, M⟩ : Rw) = R at ok er en ⊢
  subst er en
  have dk := drA_ok (ns := R.ns) (t := ⟨0, 23060, 0⟩) (Int.le_refl 0)
  refine b_cons (s_set 2 sc_law.nd (d_call (df_law_almanac T.toTq) hr (ds_cons (d_var 1) ds_nil) ⟨R, ⟨0, 23060, 0⟩, ok, Int.le_refl 0, rfl, rfl, rfl⟩)) ?_
  obtain ⟨d1, d2, d3⟩ := dk
  generalize drA R.ns ⟨0, 23060, 0⟩ = da at d1 d2 d3 ⊢
  obtain ⟨A, t⟩ := da
  have d1 : okAlm A = true := d1
  have d2 : 0 ≤ t.p := d2
  have d3 : A.ns.length ≤ 3 := d3
  have sm := sm_of d1
  refine b_cons (s_asg (d_var 2) (g_tup (gs_cons (g_name 3 sc_law.nd) (gs_cons (g_name 4 sc_law.nd) (gs_cons (g_name 5 sc_law.nd) (gs_cons (g_name 6 sc_law.nd) (gs_cons (g_name 7 sc_law.nd) (gs_cons (g_name 8 sc_law.nd) (gs_cons (g_name 9 sc_law.nd) gs_nil))))))))) ?_
  show PSs _ _ (tS c E [.raw (.ref sc), .raw (.ref R.r), .dat (aD A), I A.h, I A.f, I A.l, I A.s, I A.t, .dat (.tuple (A.ns.map PyData.int)), I A.r, .no, .no, .no, .no, .no, .no, .no, .no, .no, .no, .no, .no, .no, .no, .no] (R.m t) _)
  have h1 := sm.h
  have h2 := sm.f
  have h3 := sm.l
  have h4 := sm.s
  have h5 := sm.t
  have h6 := sm.r
  have n1 := numS_40 (n := A.h) (by omega)
  have n2 := numS_40 (n := A.f) (by omega)
  have n3 := numS_40 (n := A.l) (by omega)
  have n4 := numS_40 (n := A.s) (by omega)
  have n5 := numS_40 (n := A.t) (by omega)
  have n6 := numS_40 (n := A.r) (by omega)
  have c1 : ("day " : Str).length = 4 := by decide
  have c2 : ("window " : Str).length = 7 := by decide
  have c3 : (" to " : Str).length = 4 := by decide
  have c4 : ("woken " : Str).length = 6 := by decide
  have c5 : ("set " : Str).length = 4 := by decide
  have c6 : ("rest " : Str).length = 5 := by decide
  have c7 : ("\n" : Str).length = 1 := by decide
  have c8 : (" " : Str).length = 1 := by decide
  have wl := wordsOf_len sm
  have b30 : ∀ n : Int, n.natAbs ≤ 1000000 → n.natAbs < 10 ^ 30 := fun n h => Nat.lt_of_le_of_lt h (by decide)
  have sl : ∀ n ∈ A.ns, (signedOf n).length ≤ 41 := fun n hn => by
    have := sm.ns n hn
    exact signedOf_len (b30 n (by omega))
  refine b_cons (s_set (d := S (wordsOf A.ns)) 10 sc_law.nd (d_if (k := !A.ns.isEmpty) (et_cast (t_cmp (d_var 8) (d_tup ds_nil) (x_neNilT hr (layF_ints (n := 0)))) (by rw [isE_map])) (fun k => ed_cast (d_join (ys := A.ns.map signedOf) d_str (ed_cast (d_lc (as := A.ns) (g := PyData.int) (own := [("_law_one_here", 11)]) (fun _ => true) (fun n => .str (signedOf n)) (fun p => _) [11] rfl (by rfl) sc_law.nd (blkOk_cx (by decide +kernel)) (i_tup (d_var 8)) (by decide) (by omega) (fun a ha s H C cl fp => (g_name 11 sc_law.nd)) (fun a ha s H C cl fp => ts_nil)
    (fun a ha hp s H C cl fp => (d_call (df_law_signed T.toTq) hr (ds_cons (d_var 11) ds_nil) ⟨a, (sm.ns a ha).2.2, by have := sm.ns a ha; omega, rfl, rfl⟩))) ?_) ?_) ?_) (fun k => ed_cast d_str ?_))) ?_
  · rw [List.filter_eq_self.mpr (fun _ _ => rfl), List.map_map]
    rfl
  · have := join_len " " (A.ns.map signedOf) 41 (fun y hy => by
      obtain ⟨n, hn, rfl⟩ := List.mem_map.mp hy
      exact sl n hn)
    rw [List.length_map] at this
    rw [List.length_map, c8]
    have : A.ns.length * 41 ≤ 3 * 41 := Nat.mul_le_mul_right _ d3
    omega
  · unfold wordsOf
    rw [if_neg (by rw [(Bool.not_eq_true' _).mp k]; exact Bool.false_ne_true)]
  · unfold wordsOf
    rw [if_pos ((Bool.not_eq_false' _).mp k)]
  refine b_cons (s_set (d := .dat (.list ((lnA A).map PyData.str))) 12 sc_law.nd (ed_cast (d_lst (ds_cons (d_op d_str (d_typ (ds_cons (d_var 3) ds_nil) (y_strN (b30 _ (by omega))) T.b_str) (x_addS (by omega))) (ds_cons (d_op (d_op (d_op d_str (d_typ (ds_cons (d_var 4) ds_nil) (y_strN (b30 _ (by omega))) T.b_str) (x_addS (by omega))) d_str (x_addS (by rw [app_len]; omega))) (d_typ (ds_cons (d_var 5) ds_nil) (y_strN (b30 _ (by omega))) T.b_str) (x_addS (by rw [app_len, app_len]; omega))) (ds_cons (d_op (d_op (d_op d_str (d_typ (ds_cons (d_var 6) ds_nil) (y_strN (b30 _ (by omega))) T.b_str) (x_addS (by omega))) d_str (x_addS (by rw [app_len]; omega))) (d_typ (ds_cons (d_var 7) ds_nil) (y_strN (b30 _ (by omega))) T.b_str) (x_addS (by rw [app_len, app_len]; omega))) (ds_cons (d_op d_str (d_var 10) (x_addS (by omega))) (ds_cons (d_op d_str (d_typ (ds_cons (d_var 9) ds_nil) (y_strN (b30 _ (by omega))) T.b_str) (x_addS (by omega))) ds_nil)))))) rfl)) ?_
  have lnl := lnA_line sm
  have lns : Lns (lnA A) := lns_of lnl (show 5 ≤ 240 by decide) (by unfold lnA; simp)
  refine b_cons (s_set (d := S (writtenOf A)) 13 sc_law.nd (d_join (ys := (lnA A).map fun l => l ++ "\n") d_str (ed_cast (d_lc (as := lnA A) (g := PyData.str) (own := [("_law_line", 14)]) (fun _ => true) (fun l => .str (l ++ "\n")) (fun r => _) [14] rfl (by rfl) sc_law.nd (blkOk_cx (by decide +kernel)) (i_lst (d_var 12)) (by decide) (show 5 ≤ 90000 by decide) (fun a ha s H C cl fp => (g_name 14 sc_law.nd)) (fun a ha s H C cl fp => ts_nil) (fun a ha hp s H C cl fp => (d_op (d_var 14) d_str (x_addS (by have := (lnl a ha).2; omega))))) ?_) ?_)) ?_
  · rw [List.filter_eq_self.mpr (fun _ _ => rfl), List.map_map]
    rfl
  · exact sum_join0 _ 300 (fun y hy => by
      obtain ⟨r, hr, rfl⟩ := List.mem_map.mp hy
      have := (lnl r hr).2
      rw [app_len]
      omega) (by rw [List.length_map]; show 5 * 300 ≤ _; decide)
  have okT : TxL (.str (writtenOf A)) := .str (by
    have := len_nj fun l hl => (lnl l hl).2
    have : (lnA A).length * (200 + 1) ≤ 5 * 201 := Nat.mul_le_mul_right _ (show 5 ≤ 5 by decide)
    show (joinNl (lnA A)).length ≤ _
    omega) (okS_nj fun l hl => (lnl l hl).1.ok)
  refine b_skip (et_cast (t_w (w_or (t_not (t_val (d_call (df_law_alike T.toTq 3) hr (ds_cons (d_call (df_written T.toTq) hr (ds_cons (d_var 2) ds_nil) ⟨A, d1, rfl, rfl⟩) (ds_cons (d_var 13) ds_nil)) ⟨.str (writtenOf A), .str, rfl, rfl⟩))) (fun _ => (w_or1 (t_not (t_val (d_call (df_law_alike T.toTq 3) hr (ds_cons (d_call (df_read_almanac T.toTq) hr (ds_cons (d_var 13) ds_nil) ⟨_, okT.d, rfl, by rw [readA_written d1]; rfl⟩) (ds_cons (d_var 2) ds_nil)) ⟨aD A, al_aD (by omega), rfl, rfl⟩))))))) rfl) ?_
  refine b_cons (s_set (d := .dat (.list ((more1.take 8).map PyData.str))) 15 sc_law.nd (ed_cast (d_lst (ds_cons d_str (ds_cons d_str (ds_cons d_str (ds_cons d_str (ds_cons d_str (ds_cons d_str (ds_cons d_str (ds_cons d_str ds_nil))))))))) rfl)) ?_
  refine b_cons (s_set (d := .dat (.list (more1.map PyData.str))) 15 sc_law.nd (ed_cast (d_op (d_var 15) (d_lst (ds_cons d_str (ds_cons d_str (ds_cons d_str (ds_cons d_str (ds_cons d_str (ds_cons d_str (ds_cons d_str (ds_cons d_str ds_nil))))))))) (x_catL ?_)) rfl)) ?_
  · show 8 + 8 ≤ 100000
    decide
  have bt := fun i => btD_ok (ns := R.ns) lns lns_more1 (tB_p (ns := R.ns) lns lns_more1 d2 i)
  refine b_cons (s_loop 5 (rngD 0 5)
    (fun i => [.raw (.ref sc), .raw (.ref R.r), .dat (aD A), I A.h, I A.f, I A.l, I A.s, I A.t, .dat (.tuple (A.ns.map PyData.int)), I A.r, S (wordsOf A.ns), .no, .dat (.list ((lnA A).map PyData.str)), S (writtenOf A), .no, .dat (.list (more1.map PyData.str)), .no, .no, .no, .no, .no, .no, .no, .no, .no])
    (fun i => R.m (tB R.ns (lnA A) more1 t i))
    (fun i => [.raw (.ref sc), .raw (.ref R.r), .dat (aD A), I A.h, I A.f, I A.l, I A.s, I A.t, .dat (.tuple (A.ns.map PyData.int)), I A.r, S (wordsOf A.ns), .no, .dat (.list ((lnA A).map PyData.str)), S (writtenOf A), .no, .dat (.list (more1.map PyData.str)), I (0 + (i : Nat)), .no, .no, .no, .no, .no, .no, .no, .no])
    _ rngD_len (passes_of rfl) rfl (i_rng1 d_int (by omega) T.b_range) rfl (fun i D hD => by obtain ⟨_, rfl⟩ := rngD_get hD; exact g_name 16 sc_law.nd) (fun i D hD => ?_)) ?_
  · obtain ⟨okD, tp⟩ := bt i
    have tp0 := tB_p (ns := R.ns) lns lns_more1 d2 i
    show PSs _ _ (tS c E _ (R.m (tB R.ns (lnA A) more1 t i)) (.nx _ (R.m (btT R.ns (lnA A) more1 (tB R.ns (lnA A) more1 t i)))))
    refine b_cons (s_set 17 sc_law.nd (d_call (df_law_bent T.toTq) hr (ds_cons (d_var 1) (ds_cons (d_var 12) (ds_cons (d_var 15) ds_nil))) ⟨R, _, _, _, ok, tp0, lns, lns_more1, rfl, rfl, rfl⟩)) ?_
    generalize btD R.ns (lnA A) more1 (tB R.ns (lnA A) more1 t i) = V at okD ⊢
    refine b_weak (b_skip (et_cast (t_not (t_val (d_call (df_law_alike T.toTq 3) hr (ds_cons (ed_cast (em_cast (d_told (k := 6) (o := outA (R.m (btT R.ns (lnA A) more1 (tB R.ns (lnA A) more1 t i))) (readA V)) T TB rfl (hr.mono (by decide)) (show LamX.LamS (defScope s_law) _ from LamX.lamS_by (by decide +kernel)) (fun A2 outer2 s2 H2 E2 f2 c2 hr2 => x_call (df_read_almanac T.toTq) hr2 (passes_call (takes_of rfl rfl rfl rfl) fun _ _ _ _ h => h) (ds_cons (d_var 17) ds_nil) ⟨V, okD.d, rfl, rfl⟩) outA_nx) vO_A.2) vO_A.1) (ds_cons (d_call (df_law_read T.toTq) hr (ds_cons (d_var 17) ds_nil) ⟨V, okD, rfl, rfl⟩) ds_nil)) ⟨almD (readA V), al_alm, rfl, rfl⟩))) rfl) b_nil)
  have tp5 := tB_p (ns := R.ns) lns lns_more1 d2 5
  refine b_cons (s_set 18 sc_law.nd (d_call (df_law_story T.toTq) hr (ds_cons (d_var 1) (ds_cons (d_var 2) (ds_cons d_int ds_nil))) ⟨R, tB R.ns (lnA A) more1 t 5, A, 9, ok, tp5, sm, by omega, by omega, rfl, rfl, rfl⟩)) ?_
  have sg := stG_of (A := A) (ns := R.ns) tp5 sm
  have eT : lawT R.ns ⟨A, t⟩ = tB R.ns ((drS A R.ns (tB R.ns (lnA A) more1 t 5) 9).ev.map rl) (more2 A (drS A R.ns (tB R.ns (lnA A) more1 t 5) 9)) (drS A R.ns (tB R.ns (lnA A) more1 t 5) 9).t 5 := rfl
  rw [eT]
  generalize drS A R.ns (tB R.ns (lnA A) more1 t 5) 9 = g at sg ⊢
  show PSs _ _ (tS c E [.raw (.ref sc), .raw (.ref R.r), .dat (aD A), I A.h, I A.f, I A.l, I A.s, I A.t, .dat (.tuple (A.ns.map PyData.int)), I A.r, S (wordsOf A.ns), .no, .dat (.list ((lnA A).map PyData.str)), S (writtenOf A), .no, .dat (.list (more1.map PyData.str)), .no, .no, .dat (sD g.ws g.ps), .no, .no, .no, .no, .no, .no] (R.m g.t) _)
  have gw := sg.sm.wl
  have gp := sg.sm.pl
  have sx : ∀ p ∈ g.ps, (signedOf p.2).length ≤ 41 := fun p hp => by
    have := sg.v p hp
    exact signedOf_len (b30 _ (by omega))
  have c9 : (" set " : Str).length = 5 := by decide
  have rl_ : (rowsL g.ws g.ps).length ≤ 300 := by
    unfold rowsL
    rw [List.length_append, List.length_map, List.length_map]
    omega
  refine b_cons (s_set (d := .dat (.list ((g.ev.map rowL).map rD))) 19 sc_law.nd (ed_cast (d_sortD (es := (rowsL g.ws g.ps).map rD) (ed_cast (d_op (ed_cast (d_lc (as := g.ps) (g := prD) (own := [("_law_hour", 20), ("_law_one_here", 11)]) (fun _ => true) (fun p => rD (p.1, 0, " set " ++ signedOf p.2)) (fun p => _) _ rfl (by rfl) sc_law.nd (blkOk_cx (by decide +kernel)) (i_tup (d_ix (d_var 18) d_int (x_ixT rfl))) (by decide) (by omega) (fun a ha s H C cl fp => (g_tup (gs_cons (g_name 20 sc_law.nd) (gs_cons (g_name 11 sc_law.nd) gs_nil)))) (fun a ha s H C cl fp => ts_nil)
      (fun a ha hp s H C cl fp => (d_tup (ds_cons (d_var 20) (ds_cons d_int (ds_cons (d_op d_str (d_call (df_law_signed T.toTq) hr (ds_cons (d_var 11) ds_nil) ⟨a.2, (sg.v a ha).2.2, by have := sg.v a ha; omega, rfl, rfl⟩) (x_addS (by have := sx a ha; omega))) ds_nil)))))) (d1 := .dat (.list ((g.ps.map fun p => ((p.1, 0, " set " ++ signedOf p.2) : Row)).map rD))) ?_)
    (ed_cast (d_lc (as := g.ws) (g := PyData.int) (own := [("_law_hour", 20)]) (fun _ => true) (fun w => rD (w, 1, (" woken" : Str))) (fun p => _) [20] rfl (by rfl) sc_law.nd (blkOk_cx (by decide +kernel)) (i_tup (d_ix (d_var 18) d_int (x_ixT rfl))) (by decide) (by omega) (fun a ha s H C cl fp => (g_name 20 sc_law.nd)) (fun a ha s H C cl fp => ts_nil) (fun a ha hp s H C cl fp => (d_tup (ds_cons (d_var 20) (ds_cons d_int (ds_cons d_str ds_nil)))))) (d1 := .dat (.list ((g.ws.map fun w => ((w, 1, (" woken" : Str)) : Row)).map rD))) ?_) (x_catL ?_)) ?_) (rD_alike _) (rD_sortable _) (by rw [List.length_map]; omega) (rD_depth _) hr T.b_sorted) ?_)) ?_
  · rw [List.filter_eq_self.mpr (fun _ _ => rfl), List.map_map]
    rfl
  · rw [List.filter_eq_self.mpr (fun _ _ => rfl), List.map_map]
    rfl
  · rw [List.length_map, List.length_map, List.length_map, List.length_map]
    omega
  · rw [← List.map_append]
    rfl
  · rw [srt_map, sg.rows]
  refine b_cons (s_lc (d := .dat (.list ((g.ev.map rl).map PyData.str))) 12 (lc_cast (l_lc (es := (g.ev.map rowL).map rD) (as := g.ev) (g := fun r => rD (rowL r)) (own := [("_law_hour", 20), ("_law_order", 21), ("_law_word", 22)]) (fun _ => true) (fun r => .str (rl r)) (fun r => _) _ (by rw [List.map_map]; rfl) (by rfl) sc_law.nd (blkOk_cx (by decide +kernel)) (i_lst (d_var 19)) (by decide) (by have := sg.len; omega) (fun a ha s H C cl fp => (g_tup (gs_cons (g_name 20 sc_law.nd) (gs_cons (g_name 21 sc_law.nd) (gs_cons (g_name 22 sc_law.nd) gs_nil))))) (fun a ha s H C cl fp => ts_nil)
    (fun a ha hp s H C cl fp => ed_cast (d_op (d_typ (ds_cons (d_var 20) ds_nil) (y_strN (b30 _ (by have := sg.b a ha; show a.1.natAbs ≤ _; omega))) T.b_str) (d_var 22) (x_addS (by
      have h := (sg.line (rl a) (List.mem_map_of_mem ha)).2
      rw [← rowL_line, app_len] at h
      omega))) (by rw [rowL_line]))) ?_)) ?_
  · rw [List.filter_eq_self.mpr (fun _ _ => rfl), List.map_map]
    rfl
  have gl := sg.len
  have lll : (g.ev.map rl).length ≤ 240 := by rw [List.length_map]; exact gl
  have lns2 : Lns (g.ev.map rl) := lns_of sg.line lll (by simpa using sg.ne)
  have lnm := lns_more2 (A := A) (s := g) sm sg.h0 sg.h1
  refine b_cons (s_set (d := S (joinNl (g.ev.map rl))) 13 sc_law.nd (d_join (ys := (g.ev.map rl).map fun l => l ++ "\n") d_str (ed_cast (d_lc (as := g.ev.map rl) (g := PyData.str) (own := [("_law_line", 14)]) (fun _ => true) (fun l => .str (l ++ "\n")) (fun r => _) [14] rfl (by rfl) sc_law.nd (blkOk_cx (by decide +kernel)) (i_lst (d_var 12)) (by decide) (by omega) (fun a ha s H C cl fp => (g_name 14 sc_law.nd)) (fun a ha s H C cl fp => ts_nil) (fun a ha hp s H C cl fp => (d_op (d_var 14) d_str (x_addS (by have := (sg.line a ha).2; omega))))) ?_) ?_)) ?_
  · rw [List.filter_eq_self.mpr (fun _ _ => rfl)]
    simp only [List.map_map]
    rfl
  · exact sum_join0 _ 300 (fun y hy => by
      obtain ⟨r, hr, rfl⟩ := List.mem_map.mp hy
      have := (sg.line r hr).2
      rw [app_len]
      omega) (by rw [List.length_map]; omega)
  have okT2 : TxL (.str (joinNl (g.ev.map rl))) := .str (by
    have h1 := len_nj fun l hl => (sg.line l hl).2
    have h2 : (g.ev.map rl).length * (200 + 1) ≤ 240 * 201 := Nat.mul_le_mul_right _ lll
    omega) (okS_nj fun l hl => (sg.line l hl).1.ok)
  have tld : ∀ M : Mp, RTold [.dat (aD A), .dat (sD g.ws g.ps)] M (.rt (S (joinNl (g.ev.map rl))) M) := fun M => by
    have h := ToD.two (A := A) (M := M) sg.sm
    rw [if_pos sg.ok, sg.told] at h
    exact ⟨A, _, d1, h, rfl⟩
  refine b_skip (et_cast (t_w (w_or (t_not (t_val (d_call (df_law_alike T.toTq 3) hr (ds_cons (d_call (df_told T.toTq) hr (ds_cons (d_var 2) (ds_cons (d_var 18) ds_nil)) (tld _)) (ds_cons (d_var 13) ds_nil)) ⟨.str (joinNl (g.ev.map rl)), .str, rfl, rfl⟩))) (fun _ => (w_or1 (t_not (t_val (d_call (df_law_alike T.toTq 3) hr (ds_cons (d_call (df_read_story T.toTq) hr (ds_cons (d_var 2) (ds_cons (d_var 13) ds_nil)) ⟨A, _, d1, okT2.d, rfl, by rw [sg.read]; rfl⟩) (ds_cons (d_var 18) ds_nil)) ⟨sD g.ws g.ps, al_sD (by omega) (by omega), rfl, rfl⟩))))))) rfl) ?_
  refine b_cons (s_set (d := I g.hr) 23 sc_law.nd (ed_cast (d_ix (d_ix (d_var 18) d_int (x_ixT rfl)) (d_neg d_int) (x_ixT (last_ws sg.wne))) (by rw [sg.last]))) ?_
  have g0 := sg.h0
  have g1 := sg.h1
  have e1 := numS_40 (n := g.hr) (by omega)
  have e2 := numS_40 (n := g.hr + A.s) (by omega)
  have e3 := numS_40 (n := g.hr + A.t) (by omega)
  have e4 := numS_40 (n := g.hr + 1) (by omega)
  have fw := (first_word sm).2
  have ca : (" woken" : Str).length = 6 := by decide
  have cb : (" set +1" : Str).length = 7 := by decide
  have wne : 0 < (wds (wordsOf A.ns)).length := (wds_len _).1
  refine b_cons (s_set (d := .dat (.list (((more2 A g).take 6).map PyData.str))) 15 sc_law.nd (ed_cast (d_lst (ds_cons d_str (ds_cons (d_op (d_typ (ds_cons (d_op (d_var 23) (d_var 6) x_add) ds_nil) (y_strN (b30 _ (by omega))) T.b_str) d_str (x_addS (by omega))) (ds_cons (d_op (d_typ (ds_cons (d_op (d_var 23) (d_var 7) x_add) ds_nil) (y_strN (b30 _ (by omega))) T.b_str) d_str (x_addS (by omega))) (ds_cons (d_op (d_typ (ds_cons (d_op (d_var 23) d_int x_add) ds_nil) (y_strN (b30 _ (by omega))) T.b_str) d_str (x_addS (by omega))) (ds_cons d_str (ds_cons d_str ds_nil))))))) rfl)) ?_
  refine b_cons (s_set (d := .dat (.list ((more2 A g).map PyData.str))) 15 sc_law.nd (ed_cast (d_op (d_var 15) (d_lst (ds_cons d_str (ds_cons d_str (ds_cons d_str (ds_cons d_str (ds_cons d_str (ds_cons (d_op (d_op (d_typ (ds_cons (d_var 23) ds_nil) (y_strN (b30 _ (by omega))) T.b_str) d_str (x_addS (by omega))) (d_ix (d_wds (d_var 10) d_str (by omega)) d_int (x_ixL (D := .str ((wds (wordsOf A.ns)).getD 0 "")) (by rw [← strs_get wne]; exact atI_d (Int.le_refl 0) (by rw [List.length_map]; show (0 : Int) < _; omega)))) (x_addS (by rw [app_len]; omega))) ds_nil))))))) (x_catL ?_)) rfl)) ?_
  · show 6 + 6 ≤ 100000
    decide
  have tq := sg.t
  have bt2 := fun i => btD_ok (ns := R.ns) lns2 lnm (tB_p (ns := R.ns) lns2 lnm tq i)
  refine b_cons (s_loop 5 (rngD 0 5)
    (fun i => [.raw (.ref sc), .raw (.ref R.r), .dat (aD A), I A.h, I A.f, I A.l, I A.s, I A.t, .dat (.tuple (A.ns.map PyData.int)), I A.r, S (wordsOf A.ns), .no, .dat (.list ((g.ev.map rl).map PyData.str)), S (joinNl (g.ev.map rl)), .no, .dat (.list ((more2 A g).map PyData.str)), .no, .no, .dat (sD g.ws g.ps), .dat (.list ((g.ev.map rowL).map rD)), .no, .no, .no, I g.hr, .no])
    (fun i => R.m (tB R.ns (g.ev.map rl) (more2 A g) g.t i))
    (fun i => [.raw (.ref sc), .raw (.ref R.r), .dat (aD A), I A.h, I A.f, I A.l, I A.s, I A.t, .dat (.tuple (A.ns.map PyData.int)), I A.r, S (wordsOf A.ns), .no, .dat (.list ((g.ev.map rl).map PyData.str)), S (joinNl (g.ev.map rl)), .no, .dat (.list ((more2 A g).map PyData.str)), I (0 + (i : Nat)), .no, .dat (sD g.ws g.ps), .dat (.list ((g.ev.map rowL).map rD)), .no, .no, .no, I g.hr, .no])
    _ rngD_len (passes_of rfl) rfl (i_rng1 d_int (by omega) T.b_range) rfl (fun i D hD => by obtain ⟨_, rfl⟩ := rngD_get hD; exact g_name 16 sc_law.nd) (fun i D hD => ?_)) ?_
  · obtain ⟨okD, tp⟩ := bt2 i
    have tp0 := tB_p (ns := R.ns) lns2 lnm tq i
    show PSs _ _ (tS c E _ (R.m (tB R.ns (g.ev.map rl) (more2 A g) g.t i)) (.nx _ (R.m (btT R.ns (g.ev.map rl) (more2 A g) (tB R.ns (g.ev.map rl) (more2 A g) g.t i)))))
    refine b_cons (s_set 17 sc_law.nd (d_call (df_law_bent T.toTq) hr (ds_cons (d_var 1) (ds_cons (d_var 12) (ds_cons (d_var 15) ds_nil))) ⟨R, _, _, _, ok, tp0, lns2, lnm, rfl, rfl, rfl⟩)) ?_
    generalize btD R.ns (g.ev.map rl) (more2 A g) (tB R.ns (g.ev.map rl) (more2 A g) g.t i) = V at okD ⊢
    refine b_weak (b_skip (et_cast (t_not (t_val (d_call (df_law_alike T.toTq 3) hr (ds_cons (ed_cast (em_cast (d_told (k := 6) (o := outSt (R.m (btT R.ns (g.ev.map rl) (more2 A g) (tB R.ns (g.ev.map rl) (more2 A g) g.t i))) (readS A V)) T TB rfl (hr.mono (by decide)) (show LamX.LamS (defScope s_law) _ from LamX.lamS_by (by decide +kernel)) (fun A2 outer2 s2 H2 E2 f2 c2 hr2 => x_call (df_read_story T.toTq) hr2 (passes_call (takes_of rfl rfl rfl rfl) fun _ _ _ _ h => h) (ds_cons (d_var 2) (ds_cons (d_var 17) ds_nil)) ⟨A, V, d1, okD.d, rfl, rfl⟩) outSt_nx) vO_S.2) vO_S.1) (ds_cons (d_call (df_law_read_story T.toTq) hr (ds_cons (d_var 2) (ds_cons (d_var 17) ds_nil)) ⟨A, V, h6.1, okD, rfl, rfl⟩) ds_nil)) ⟨stoD (readS A V), al_sto h6.1, rfl, rfl⟩))) rfl) b_nil)
  refine b_cons (s_set (d := .dat (.list (bads A g))) 24 sc_law.nd (ed_cast (d_lst (ds_cons d_non (ds_cons (d_sl (d_var 18) o_none (o_some d_int) sx_tup) (ds_cons (d_typ (ds_cons (d_var 18) ds_nil) y_lstT T.b_list) (ds_cons (d_tup (ds_cons (d_tup (ds_cons d_int ds_nil)) (ds_cons (d_tup ds_nil) ds_nil))) (ds_cons (d_tup (ds_cons (d_tup (ds_cons d_int (ds_cons (d_op (d_var 7) d_int x_add) ds_nil))) (ds_cons (d_tup ds_nil) ds_nil))) (ds_cons (d_tup (ds_cons (d_ix (d_var 18) d_int (x_ixT rfl)) (ds_cons (d_tup (ds_cons (d_tup (ds_cons d_int (ds_cons d_int ds_nil))) ds_nil)) ds_nil))) (ds_cons (d_tup (ds_cons (d_tup (ds_cons d_int (ds_cons d_int ds_nil))) (ds_cons (d_tup ds_nil) ds_nil))) (ds_cons (d_tup (ds_cons (d_tup ds_nil) (ds_cons (d_tup ds_nil) ds_nil))) ds_nil))))))))) rfl)) ?_
  have bo := bads_ok (M := R.m (tB R.ns (g.ev.map rl) (more2 A g) g.t 5)) sm sg
  refine b_cons (s_ret (d_cmp (d3 := .dat (.bool true)) (ed_cast (d_lc (as := bads A g) (g := id) (own := [("_law_value", 17)]) (fun _ => false) id (fun p => _) [17] (List.map_id _).symm (by rfl) sc_law.nd (blkOk_cx (by decide +kernel)) (i_lst (d_var 24)) (by decide) (show 8 ≤ 90000 by decide) (fun a ha s H C cl fp => (g_name 17 sc_law.nd)) (fun a ha s2 H2 C2 cl2 fp2 => (ts_one (et_cast (t_cmp (d_told (k := 6) (o := .ex .story (R.m (tB R.ns (g.ev.map rl) (more2 A g) g.t 5))) T TB rfl (hr.mono (by decide)) (LamX.lamS_by (by rfl)) (fun A2 outer2 s3 H3 E2 f2 c2 hr2 => x_call (df_told T.toTq) hr2 (passes_call (takes_of rfl rfl rfl rfl) fun _ _ _ _ h => h) (ds_cons (d_var 2) (ds_cons (d_var 17) ds_nil)) ⟨A, _, d1, bo a ha, rfl⟩) (fun _ _ => nofun)) d_str x_neS) rfl))) (fun a ha hp s H C cl fp => by cases hp)) (d1 := .dat (.list [])) ?_) (d_lst ds_nil) (x_eqNilL (n := 0) hr layF_nil))) rfl
  rw [List.filter_eq_nil_iff.mpr (fun _ _ z => by cases z)]
  rfl
end Zd
end
/-! ## E0 -/
section
set_option Elab.async false
set_option linter.all false
set_option maxRecDepth 100000
set_option maxHeartbeats 4000000
/-! The end, but for the top's facts. -/
namespace Zd
open PySem PySem.Spec PyProof.Rows L2
theorem slvs_ofInts {B : Hp} : ∀ ns : List Int, SlVs B (ns.map fun n => Sl.dat (.int n)) (ns.map V.int)
  | [] => .nil
  | n :: r => .cons (.int n) (slvs_ofInts r)
theorem law_sp {c : Cg} {H : Hp} {a : Addr} {ns : List Int} (n1 : c.PN ≠ c.PA) (n2 : c.PN ≠ c.PL) (n3 : c.PA ≠ c.PL) (hN : H c.PN = some (.tbl #[])) (hA : H c.PA = some (.tbl #[])) (hL : H c.PL = some (.tbl #[])) (hS : SqL c.K H a (ns.map V.int)) :
    spD c (RLaw c) [.ref a] H (fun v _ => v = .bl true) fun _ _ _ => False := by
  have tb : Tb c H := ⟨⟨#[], hN, True.intro⟩, ⟨#[], hA, True.intro⟩, LamX.TabS.nil hL, n1, n2, n3⟩
  have fin : ∀ M : Mp, (∀ b o, M b = some o → ∃ u, MoR (fun _ => none) o u ∧ H b = some u) → ScrAt c M a ns → spD c (RLaw c) [.ref a] H (fun v _ => v = .bl true) fun _ _ _ => False := fun M hm hs =>
    ⟨fun _ => none, M, [.raw (.ref a)], .rt (Bo true) M, ⟨(fun b o e => by cases e), hm, tb⟩, .cons rfl .nil, ⟨a, ns, hs, rfl, rfl⟩, (fun v B' H' g sv => by cases sv; rfl)⟩
  rcases hS with (h | ⟨ob, h⟩) | k
  · refine fin (updM (fun _ => none) a (.lst (ns.map fun n => .dat (.int n)))) (fun b o e => ?_) (.inl ⟨_, updM_same, .inr rfl⟩)
    by_cases q : b = a
    · subst q
      rw [updM_same] at e
      cases e
      exact ⟨_, .lst (slvs_ofInts ns), h⟩
    · rw [updM_ne q] at e
      cases e
  · refine fin (updM (fun _ => none) a (.frz ob (ns.map V.int))) (fun b o e => ?_) (.inl ⟨_, updM_same, .inl ⟨ob, rfl⟩⟩)
    by_cases q : b = a
    · subst q
      rw [updM_same] at e
      cases e
      exact ⟨_, .frz, h⟩
    · rw [updM_ne q] at e
      cases e
  · exact fin (fun _ => none) (fun b o e => by cases e) (.inr fun H => .inr k)
theorem walk_end {l : PySem.W.OpenLaw} {q : Program} {loose : List Str} {XP : (Str → Option Value) → Heap → Prop} {YP : World → Heap → Prop} {d : DefRec} {K : Params → PySem.W.Frag} (hn : l.most = some 63) (hdf : d.params.defaults = [])
    (hY : ∀ (w : World) (h : Heap), YP w h → (K w.params).In h)
    (F : ∀ (w : World) (s₀ : Shared) (mg mb : Str → Option Value) (fa : Addr) (h : Heap), PySem.W.Ground q loose [] XP w s₀ mg mb h → YP w h → (K w.params).In h → mg d.name = some (.ref fa) →
      ∃ (c : Cg) (cN cA cL : Addr) (fd : FuncData), c.K = K w.params ∧ (c.PN ≠ c.PA ∧ c.PN ≠ c.PL ∧ c.PA ≠ c.PL) ∧ (∀ p ∈ [(cN, c.PN), (cA, c.PA), (cL, c.PL)], h.get? p.2 = some { cls := .none, data := .fields #[] } ∧ c.K.lookup p.2 = none ∧ PySem.W.CodeHd h p.1 p.2) ∧
        (∀ (s : Shared) (u : Value), BindsTo s fd ⟨[u], []⟩ [("_law_script", u)]) ∧ ∀ base : Heap, c.K.In base → base.Ns mainGlobals mg → GxR.TabB base mg cN c.PN → GxR.TabB base mg cA c.PA → GxR.TabB base mg cL c.PL → FnOk l.prog w c.K mg base (L2.CX l.prog w) 9 fa fd ["_law_script"] (spD c (RLaw c))) :
    PySem.W.WalkO q loose XP YP l.row.toRowW d [] (fun f vs => PySem.call f vs) := by
  refine Att.attach_callB hn hdf fun w s₀ s₁ mg mb fa o pm cd doc a vs ns G Y ho hd hcd hmg hobj hints hlen hbits hg => ?_
  have KX := hY w _ Y
  obtain ⟨c, cN, cA, cL, fd, hK, ⟨n1, n2, n3⟩, hT, hb, hF⟩ := F w s₀ mg mb fa _ G Y KX hmg
  rw [← hK] at KX
  have m1 : ((cN, c.PN) : Addr × Addr) ∈ [(cN, c.PN), (cA, c.PA), (cL, c.PL)] := List.mem_cons_self
  have m2 : ((cA, c.PA) : Addr × Addr) ∈ [(cN, c.PN), (cA, c.PA), (cL, c.PL)] := List.mem_cons_of_mem _ List.mem_cons_self
  have m3 : ((cL, c.PL) : Addr × Addr) ∈ [(cN, c.PN), (cA, c.PA), (cL, c.PL)] := List.mem_cons_of_mem _ (List.mem_cons_of_mem _ List.mem_cons_self)
  refine LamX.law_callTs (cs := [(cN, c.PN), (cA, c.PA), (cL, c.PL)]) (CX := L2.CX l.prog w) (sp := spD c (RLaw c)) (x := "_law_script") (k := 9) (fd := fd) KX G.T.g G.T.b G.T.builtins G.T.nolimit hg (fun p hp => (hT p hp).1) (fun p hp => (hT p hp).2.1) (fun p hp => (hT p hp).2.2) G.T.bmain hobj hints (Nat.le_trans hlen (by decide)) ⟨rfl, by decide, by decide⟩
    (fun base kb gb tb => hF base kb gb ?_ ?_ ?_) hb (fun H hH hS => law_sp n1 n2 n3 (hH _ m1) (hH _ m2) (hH _ m3) hS) fun H e s' h => ?_
  · have t := tb _ m1
    exact ⟨t.code, t.bm, t.gP⟩
  · have t := tb _ m2
    exact ⟨t.code, t.bm, t.gP⟩
  · have t := tb _ m3
    exact ⟨t.code, t.bm, t.gP⟩
  · obtain ⟨_, _, _, _, _, _, _, _, _, _, _, _, z⟩ := h
    exact z
/-! ### the top's facts -/
section
variable {K : PySem.W.Frag} {h : Heap} {mg : Str → Option Value}
theorem da_mk (X : K.In h) (G : h.Ns mainGlobals mg) {x : Str} {st : Stmt} {ps : List Str} {f : Addr} {oc : Value} {od an : Option Addr} {osl : Array (Option Value)} {kV doc pm cdv ct : Value} (a : PySem.W.nsIn K mainGlobals x = some (some (.ref f)))
    (l : K.lookup f = some ⟨oc, od, .func (PySem.W.fnOf x x (defArgs st) (defBody st) (defScope st) .none kV doc pm an cdv ct), osl⟩) (c : PySem.W.codeIn K cdv x = true) (k : PySem.W.keepIn K (.ref f) = true)
    (b : ∀ (kV doc pm : Value) (an : Option Addr) (cdv ct : Value) (us : List Value), us.length = ps.length → bindArgs (PySem.W.fnOf x x (defArgs st) (defBody st) (defScope st) .none kV doc pm an cdv ct) ⟨us, []⟩ = pure (ps.zip us)) : DefAt K mg x x st ps :=
  ⟨f, _, fun_mk l c k, PySem.W.mg_of X G a, (fun_mk l c k).binds b⟩
theorem dc_mk (X : K.In h) (G : h.Ns mainGlobals mg) {x : Str} {st : Stmt} {ps : List Str} {f cc : Addr} {oc : Value} {od an : Option Addr} {osl : Array (Option Value)} {kV doc pm ct : Value} (a : PySem.W.nsIn K mainGlobals x = some (some (.ref f)))
    (l : K.lookup f = some ⟨oc, od, .func (PySem.W.fnOf x x (defArgs st) (defBody st) (defScope st) .none kV doc pm an (.ref cc) ct), osl⟩) (c : PySem.W.codeIn K (.ref cc) x = true) (k : PySem.W.keepIn K (.ref f) = true)
    (b : ∀ (kV doc pm : Value) (an : Option Addr) (cdv ct : Value) (us : List Value), us.length = ps.length → bindArgs (PySem.W.fnOf x x (defArgs st) (defBody st) (defScope st) .none kV doc pm an cdv ct) ⟨us, []⟩ = pure (ps.zip us)) : DefAtC K mg x x st ps cc :=
  ⟨f, _, ⟨⟨oc, od, kV, doc, pm, an, ct, osl, rfl, l, c⟩, k⟩, PySem.W.mg_of X G a, (fun_mk l c k).binds b⟩
theorem me_at {C : Addr} {m qual : Str} {st : Stmt} {ps : List Str} {f : Addr} {oc : Value} {od an : Option Addr} {osl : Array (Option Value)} {kV doc pm cdv ct : Value} (a : PySem.W.findIn K (.ref C) m = some (some (.ref f))) (i : PySem.W.isFn K (.ref f) = true)
    (l : K.lookup f = some ⟨oc, od, .func (PySem.W.fnOf m qual (defArgs st) (defBody st) (defScope st) .none kV doc pm an cdv ct), osl⟩) (c : PySem.W.codeIn K cdv qual = true) (k : PySem.W.keepIn K (.ref f) = true)
    (b : ∀ (kV doc pm : Value) (an : Option Addr) (cdv ct : Value) (us : List Value), us.length = ps.length → bindArgs (PySem.W.fnOf m qual (defArgs st) (defBody st) (defScope st) .none kV doc pm an cdv ct) ⟨us, []⟩ = pure (ps.zip us)) : MeAt K C m qual st ps :=
  ⟨f, _, fun_mk l c k, ⟨a, i, k⟩, (fun_mk l c k).binds b⟩
theorem in_at {C : Addr} {qual : Str} {st : Stmt} {ps : List Str} {f : Addr} {oc : Value} {od an : Option Addr} {osl : Array (Option Value)} {kV doc pm cdv ct : Value} (mk : PySem.W.makesIn K C = true) (kc : PySem.W.keepIn K (.ref C) = true) (a : PySem.W.findIn K (.ref C) "__init__" = some (some (.ref f))) (i : PySem.W.isFn K (.ref f) = true)
    (l : K.lookup f = some ⟨oc, od, .func (PySem.W.fnOf "__init__" qual (defArgs st) (defBody st) (defScope st) .none kV doc pm an cdv ct), osl⟩) (c : PySem.W.codeIn K cdv qual = true) (k : PySem.W.keepIn K (.ref f) = true)
    (b : ∀ (kV doc pm : Value) (an : Option Addr) (cdv ct : Value) (us : List Value), us.length = ps.length → bindArgs (PySem.W.fnOf "__init__" qual (defArgs st) (defBody st) (defScope st) .none kV doc pm an cdv ct) ⟨us, []⟩ = pure (ps.zip us)) : InAt K C qual st ps :=
  ⟨f, _, fun_mk l c k, ⟨mk, a, i, kc⟩, (fun_mk l c k).binds b⟩
theorem exm_of {S R : Addr} {k : Bool} (h1 : PySem.W.subIn K (.ref S) (.type "BaseException") = some true) (h2 : PySem.W.isClsIn K S = true) (h3 : PySem.W.typeIn K (.ref S) = some (.type "type")) (h4 : PySem.W.subIn K (.ref R) (.ref S) = some k) : PySem.W.exmOne K (.ref R) (.ref S) = some k := by
  have e1 : (PySem.W.subIn K (.ref S) (.type "BaseException") == some true) = true := by rw [h1] <;> rfl
  have e2 : ((PySem.W.clsIn K S).isSome && PySem.W.typeIn K (.ref S) == some (.type "type")) = true := by
    have h2' : (PySem.W.clsIn K S).isSome = true := h2
    rw [h2', h3] <;> rfl
  show (if (PySem.W.subIn K (.ref S) (.type "BaseException") == some true) = true then (if ((PySem.W.clsIn K S).isSome && PySem.W.typeIn K (.ref S) == some (.type "type")) = true then PySem.W.subIn K (.ref R) (.ref S) else none) else none) = some k
  rw [if_pos e1, if_pos e2]
  exact h4
theorem atK {P : PySem.W.Frag → Prop} (X : K.In h) (f : P K) : P K := f
theorem tabIn_of {x : Str} {f cc P : Addr} {oc oc2 : Value} {od od2 : Option Addr} {fd : FuncData} {vs : Array Value} {sl sl2 : Array (Option Value)} (a : PySem.W.nsIn K mainGlobals x = some (some (.ref f))) (l : K.lookup f = some ⟨oc, od, .func fd, sl⟩) (e : fd.code = .ref cc)
    (l2 : K.lookup cc = some ⟨oc2, od2, .fields vs, sl2⟩) (e2 : vs[11]? = some (.ref P)) : PySem.W.tabIn K x = some (cc, P) := by
  unfold PySem.W.tabIn
  rw [a]
  dsimp only
  rw [l]
  dsimp only
  rw [e]
  dsimp only
  rw [l2]
  dsimp only
  rw [e2]
theorem codeHdIn_of {cc P : Addr} {o : Obj} (l : K.lookup cc = some o) (e : PySem.W.codeHdIn [(cc, o)] cc P = true) : PySem.W.codeHdIn K cc P = true := by
  have z : List.lookup cc ([(cc, o)] : List (Addr × Obj)) = some o := by
    show (match cc == cc with | true => some o | false => List.lookup cc []) = some o
    rw [beq_self_eq_true]
  unfold PySem.W.codeHdIn at e ⊢
  rw [show List.lookup cc K = some o from l]
  rw [z] at e
  exact e
theorem bt_mk (X : K.In h) (G : h.Ns mainGlobals mg) {C f1 N : Addr} {nm q : Str} {bs bm : List Value} {sn : List Str} {sub : List Value} {ab : Bool} {col : Option Bool} {dd : Option Addr} {m0 m1 m2 m3 m5 : Option Value}
    {od1 an1 : Option Addr} {sl1 : Array (Option Value)} {oc1 dc1 pm1 cd1 ct1 : Value} {p1 p2 q1 q2 q3 q4 : Pos}
    (aC : PySem.W.nsIn K mainGlobals "BadText" = some (some (.ref C)))
    (xL : K.lookup C = some (excClassObj nm q C N bs bm true sn sub ab col dd m0 m1 m2 m3 m5 "ValueError.__new__")) (rV : PySem.HandSPX.refsVE bm = true)
    (sa : PySem.W.findIn K (.ref C) "__setattr__" = some (some (.builtin "object.__setattr__"))) (ga : PySem.W.findIn K (.ref C) "__getattribute__" = some (some (.builtin "BaseException.__getattribute__"))) (gg : PySem.W.findIn K (.ref C) "__getattr__" = some none) (nb : PySem.W.findIn K (.ref C) "line" = some none)
    (a1 : PySem.W.findIn K (.ref C) "__init__" = some (some (.ref f1))) (t1 : PySem.W.typeIn K (.ref f1) = some (.type "function"))
    (l1 : K.lookup f1 = some ⟨oc1, od1, .func (PySem.W.fnOf "__init__" "BadText.__init__" (PySem.BtX.iA p1 p2) (PySem.BtX.iB q1 q2 q3 q4) PySem.BtX.iS .none .none dc1 pm1 an1 cd1 ct1), sl1⟩) (c1 : PySem.W.codeIn K cd1 "BadText.__init__" = true)
    (kC : PySem.W.keepIn K (.ref C) = true) (eC : PySem.W.subIn K (.ref C) (.type "BaseException") = some true) (tC : PySem.W.typeIn K (.ref C) = some (.type "type")) (hC : PySem.W.hasDictIn K C = true) (iC : PySem.W.isClsIn K C = true) (sC : PySem.W.subIn K (.ref C) (.ref C) = some true) : PySem.BtX.BtTxt K mg C f1 :=
  { gC := PySem.W.mg_of X G aC, cls := ⟨nm, q, N, bs, _, sn, sub, ab, col, dd, m0, m1, m2, m3, m5, xL, rV⟩, sa := sa, ga := ga, gg := gg, noN := nb, iC := a1, tC := t1, kC := kC, exC := eC, tyC := tC, hdC := hC, te := exm_of eC iC tC sC,
    fn := ⟨_, _, _, _, _, _, _, _, _, _, _, _, _, _, l1, c1⟩ }
end
theorem law_end {q P : Program} {loose : List Str} {XP : (Str → Option Value) → Heap → Prop} {w : World} {s₀ : Shared} {mg mb : Str → Option Value} {fa : Addr} {h : Heap} {K : PySem.W.Frag} (G : PySem.W.Ground q loose [] XP w s₀ mg mb h) (X : K.In h) (hmg : mg "law" = some (.ref fa))
    (tp : Tp K mg) {cN cA cL PN PA PL CT CS f : Addr} {dN dA : DefRec} {oc : Value} {od an : Option Addr} {osl : Array (Option Value)} {kV doc pm ct : Value}
    (n_of : DefAtC K mg "number_of" "number_of" s_number_of ["word"] cN) (a_of : DefAtC K mg "are_settings" "are_settings" s_are_settings ["value", "hours"] cA)
    (bt : ∃ fI, PySem.BtX.BtTxt K mg CT fI) (st : StX K mg CS) (tl : ∃ C, TlX K mg C) (e1 : PySem.W.exmOne K (.ref CS) (.ref CT) = some false) (e2 : PySem.W.exmOne K (.ref CS) (.ref CS) = some true)
    (a : PySem.W.nsIn K mainGlobals "law" = some (some (.ref f))) (l : K.lookup f = some ⟨oc, od, .func (PySem.W.fnOf "law" "law" (defArgs s_law) (defBody s_law) (defScope s_law) .none kV doc pm an (.ref cL) ct), osl⟩) (c : PySem.W.codeIn K (.ref cL) "law" = true) (k : PySem.W.keepIn K (.ref f) = true)
    (rN : (recsOf q).find? (fun e => e.name == ("number_of" : Str)) = some dN) (rA : (recsOf q).find? (fun e => e.name == ("are_settings" : Str)) = some dA) (tN : PySem.W.tabIn K "number_of" = some (cN, PN)) (tA : PySem.W.tabIn K "are_settings" = some (cA, PA)) (tL : h.get? PL = some { cls := .none, data := .fields #[] }) (hL : PySem.W.codeHdIn K cL PL = true)
    (n1 : PN ≠ PA) (n2 : PN ≠ PL) (n3 : PA ≠ PL) (zN : K.lookup PN = none) (zA : K.lookup PA = none) (zL : K.lookup PL = none) :
    ∃ (c : Cg) (cN cA cL : Addr) (fd : FuncData), c.K = K ∧ (c.PN ≠ c.PA ∧ c.PN ≠ c.PL ∧ c.PA ≠ c.PL) ∧ (∀ p ∈ [(cN, c.PN), (cA, c.PA), (cL, c.PL)], h.get? p.2 = some { cls := .none, data := .fields #[] } ∧ c.K.lookup p.2 = none ∧ PySem.W.CodeHd h p.1 p.2) ∧
        (∀ (s : Shared) (u : Value), BindsTo s fd ⟨[u], []⟩ [("_law_script", u)]) ∧ ∀ base : Heap, c.K.In base → base.Ns mainGlobals mg → GxR.TabB base mg cN c.PN → GxR.TabB base mg cA c.PA → GxR.TabB base mg cL c.PL → FnOk P w c.K mg base (L2.CX P w) 9 fa fd ["_law_script"] (spD c (RLaw c)) := by
  have e := hmg.symm.trans (PySem.W.mg_of X G.T.g a)
  cases e
  obtain ⟨hN1, hN2⟩ := PySem.W.tab_of G.T X rN tN
  obtain ⟨hA1, hA2⟩ := PySem.W.tab_of G.T X rA tA
  refine ⟨⟨K, PN, PA, PL, "law.<locals>.<lambda>", CT, CS⟩, cN, cA, cL, _, rfl, ⟨n1, n2, n3⟩, fun p hp => ?_, fun s u => .of_eq rfl, fun base kb gb b1 b2 b3 => fn_law (T := ?_) l c b3⟩
  · simp only [List.mem_cons, List.not_mem_nil, or_false] at hp
    rcases hp with rfl | rfl | rfl
    · exact ⟨hN2, zN, hN1⟩
    · exact ⟨hA2, zA, hA1⟩
    · exact ⟨tL, zL, PySem.W.codeHd_of_K X hL⟩
  · exact ⟨⟨tp, ⟨cN, n_of, b1⟩, ⟨cA, a_of, b2⟩, bt, st, tl,
      ⟨cL, ⟨_, _, ⟨⟨oc, od, kV, doc, pm, an, ct, osl, rfl, l, c⟩, k⟩, PySem.W.mg_of X G.T.g a, (fun_mk (st := s_law) l c k).binds (fun _ _ _ _ _ _ us hl => match us, hl with | [_], _ => rfl)⟩, b3⟩⟩, e1, e2, rfl⟩
end Zd
end
/-! ## E1 -/
open PySem PySem.W PyProof.Rows
set_option Elab.async false
set_option maxRecDepth 100000 in
set_option maxHeartbeats 0 in
theorem PySem.Challenge.cw_wrongclock_k60_whole_texts_holds : PySem.Challenge.rw_wrongclock_k60_whole_texts.Holds := by
  w_on; o_law; k_head; (case hw => w_witness2)
  k_fill
  refine Zd.walk_end (l := PySem.Challenge.rw_wrongclock_k60_whole_texts) rfl rfl (fun w h Y => Y.1) ?F
  case F =>
    intro w s₀ mg mb fa h G Y X hmg
    have N := G.T.g
    have K_LEAST_HOURS : ∃ t, mg "LEAST_HOURS" = some (.int 2 t) := by
      refine' ⟨275, PySem.W.mg_of X N ?a⟩
      (case a => k_is)
    have K_MOST_HOURS : ∃ t, mg "MOST_HOURS" = some (.int 12 t) := by
      refine' ⟨277, PySem.W.mg_of X N ?a⟩
      (case a => k_is)
    have K_MOST_LATE : ∃ t, mg "MOST_LATE" = some (.int 24 t) := by
      refine' ⟨279, PySem.W.mg_of X N ?a⟩
      (case a => k_is)
    have K_MOST_SETTINGS : ∃ t, mg "MOST_SETTINGS" = some (.int 4 t) := by
      refine' ⟨281, PySem.W.mg_of X N ?a⟩
      (case a => k_is)
    have K_MOST_REST : ∃ t, mg "MOST_REST" = some (.int 12 t) := by
      refine' ⟨283, PySem.W.mg_of X N ?a⟩
      (case a => k_is)
    have K_MOST_WAKINGS : ∃ t, mg "MOST_WAKINGS" = some (.int 60 t) := by
      refine' ⟨285, PySem.W.mg_of X N ?a⟩
      (case a => k_is)
    have K_FIGURES : ∃ t, mg "FIGURES" = some (.str "0123456789" t) := by
      refine' ⟨350, PySem.W.mg_of X N ?a⟩
      (case a => k_is)
    have TP := Zd.atK (P := fun K => Zd.Tp K mg) X (by
      refine' { d_is_number := ?d_is_number, d_are_settings := ?d_are_settings, d_need_almanac := ?d_need_almanac, d_are_wakings := ?d_are_wakings, d_are_sets := ?d_are_sets, d_is_story := ?d_is_story, d_signed := ?d_signed, d_written := ?d_written, d_number_of := ?d_number_of, d_setting_of := ?d_setting_of, d_one_number := ?d_one_number, d_two_numbers := ?d_two_numbers, d_settings_of := ?d_settings_of, d_lines_of := ?d_lines_of, d_need_line := ?d_need_line, d_read_almanac := ?d_read_almanac, d_told := ?d_told, d_read_story := ?d_read_story, d_law_taken := ?d_law_taken, d_law_pick := ?d_law_pick, d_law_alike := ?d_law_alike, d_law_almanac := ?d_law_almanac, d_law_story := ?d_law_story, d_law_signed := ?d_law_signed, d_law_number := ?d_law_number, d_law_setting := ?d_law_setting, d_law_in := ?d_law_in, d_law_two := ?d_law_two, d_law_one := ?d_law_one, d_law_lines := ?d_law_lines, d_law_read := ?d_law_read, d_law_read_story := ?d_law_read_story, d_law_told := ?d_law_told, d_law_bent := ?d_law_bent, d_law := ?d_law, b_len := ?b_len, b_isinstance := ?b_isinstance, b_int := ?b_int, b_str := ?b_str, b_bool := ?b_bool, b_tuple := ?b_tuple, b_list := ?b_list, b_abs := ?b_abs, b_all := ?b_all, b_zip := ?b_zip, b_enumerate := ?b_enumerate, b_sorted := ?b_sorted, b_set := ?b_set, b_range := ?b_range, k_LEAST_HOURS := K_LEAST_HOURS, k_MOST_HOURS := K_MOST_HOURS, k_MOST_LATE := K_MOST_LATE, k_MOST_SETTINGS := K_MOST_SETTINGS, k_MOST_REST := K_MOST_REST, k_MOST_WAKINGS := K_MOST_WAKINGS, k_FIGURES := K_FIGURES }
      (case d_is_number => refine' Zd.da_mk X N ?a ?l ?c ?k (fun _ _ _ _ _ _ us hl => match us, hl with | [_, _, _], _ => rfl); (case a => k_is); (case l => k_is); (case c => k_is); (case k => k_is))
      (case d_are_settings => refine' Zd.da_mk X N ?a ?l ?c ?k (fun _ _ _ _ _ _ us hl => match us, hl with | [_, _], _ => rfl); (case a => k_is); (case l => k_is); (case c => k_is); (case k => k_is))
      (case d_need_almanac => refine' Zd.da_mk X N ?a ?l ?c ?k (fun _ _ _ _ _ _ us hl => match us, hl with | [_], _ => rfl); (case a => k_is); (case l => k_is); (case c => k_is); (case k => k_is))
      (case d_are_wakings => refine' Zd.da_mk X N ?a ?l ?c ?k (fun _ _ _ _ _ _ us hl => match us, hl with | [_, _], _ => rfl); (case a => k_is); (case l => k_is); (case c => k_is); (case k => k_is))
      (case d_are_sets => refine' Zd.da_mk X N ?a ?l ?c ?k (fun _ _ _ _ _ _ us hl => match us, hl with | [_, _, _], _ => rfl); (case a => k_is); (case l => k_is); (case c => k_is); (case k => k_is))
      (case d_is_story => refine' Zd.da_mk X N ?a ?l ?c ?k (fun _ _ _ _ _ _ us hl => match us, hl with | [_, _], _ => rfl); (case a => k_is); (case l => k_is); (case c => k_is); (case k => k_is))
      (case d_signed => refine' Zd.da_mk X N ?a ?l ?c ?k (fun _ _ _ _ _ _ us hl => match us, hl with | [_], _ => rfl); (case a => k_is); (case l => k_is); (case c => k_is); (case k => k_is))
      (case d_written => refine' Zd.da_mk X N ?a ?l ?c ?k (fun _ _ _ _ _ _ us hl => match us, hl with | [_], _ => rfl); (case a => k_is); (case l => k_is); (case c => k_is); (case k => k_is))
      (case d_number_of => refine' Zd.da_mk X N ?a ?l ?c ?k (fun _ _ _ _ _ _ us hl => match us, hl with | [_], _ => rfl); (case a => k_is); (case l => k_is); (case c => k_is); (case k => k_is))
      (case d_setting_of => refine' Zd.da_mk X N ?a ?l ?c ?k (fun _ _ _ _ _ _ us hl => match us, hl with | [_], _ => rfl); (case a => k_is); (case l => k_is); (case c => k_is); (case k => k_is))
      (case d_one_number => refine' Zd.da_mk X N ?a ?l ?c ?k (fun _ _ _ _ _ _ us hl => match us, hl with | [_, _], _ => rfl); (case a => k_is); (case l => k_is); (case c => k_is); (case k => k_is))
      (case d_two_numbers => refine' Zd.da_mk X N ?a ?l ?c ?k (fun _ _ _ _ _ _ us hl => match us, hl with | [_, _], _ => rfl); (case a => k_is); (case l => k_is); (case c => k_is); (case k => k_is))
      (case d_settings_of => refine' Zd.da_mk X N ?a ?l ?c ?k (fun _ _ _ _ _ _ us hl => match us, hl with | [_], _ => rfl); (case a => k_is); (case l => k_is); (case c => k_is); (case k => k_is))
      (case d_lines_of => refine' Zd.da_mk X N ?a ?l ?c ?k (fun _ _ _ _ _ _ us hl => match us, hl with | [_], _ => rfl); (case a => k_is); (case l => k_is); (case c => k_is); (case k => k_is))
      (case d_need_line => refine' Zd.da_mk X N ?a ?l ?c ?k (fun _ _ _ _ _ _ us hl => match us, hl with | [_, _], _ => rfl); (case a => k_is); (case l => k_is); (case c => k_is); (case k => k_is))
      (case d_read_almanac => refine' Zd.da_mk X N ?a ?l ?c ?k (fun _ _ _ _ _ _ us hl => match us, hl with | [_], _ => rfl); (case a => k_is); (case l => k_is); (case c => k_is); (case k => k_is))
      (case d_told => refine' Zd.da_mk X N ?a ?l ?c ?k (fun _ _ _ _ _ _ us hl => match us, hl with | [_, _], _ => rfl); (case a => k_is); (case l => k_is); (case c => k_is); (case k => k_is))
      (case d_read_story => refine' Zd.da_mk X N ?a ?l ?c ?k (fun _ _ _ _ _ _ us hl => match us, hl with | [_, _], _ => rfl); (case a => k_is); (case l => k_is); (case c => k_is); (case k => k_is))
      (case d_law_taken => refine' Zd.da_mk X N ?a ?l ?c ?k (fun _ _ _ _ _ _ us hl => match us, hl with | [_, _], _ => rfl); (case a => k_is); (case l => k_is); (case c => k_is); (case k => k_is))
      (case d_law_pick => refine' Zd.da_mk X N ?a ?l ?c ?k (fun _ _ _ _ _ _ us hl => match us, hl with | [_, _], _ => rfl); (case a => k_is); (case l => k_is); (case c => k_is); (case k => k_is))
      (case d_law_alike => refine' Zd.da_mk X N ?a ?l ?c ?k (fun _ _ _ _ _ _ us hl => match us, hl with | [_, _], _ => rfl); (case a => k_is); (case l => k_is); (case c => k_is); (case k => k_is))
      (case d_law_almanac => refine' Zd.da_mk X N ?a ?l ?c ?k (fun _ _ _ _ _ _ us hl => match us, hl with | [_], _ => rfl); (case a => k_is); (case l => k_is); (case c => k_is); (case k => k_is))
      (case d_law_story => refine' Zd.da_mk X N ?a ?l ?c ?k (fun _ _ _ _ _ _ us hl => match us, hl with | [_, _, _], _ => rfl); (case a => k_is); (case l => k_is); (case c => k_is); (case k => k_is))
      (case d_law_signed => refine' Zd.da_mk X N ?a ?l ?c ?k (fun _ _ _ _ _ _ us hl => match us, hl with | [_], _ => rfl); (case a => k_is); (case l => k_is); (case c => k_is); (case k => k_is))
      (case d_law_number => refine' Zd.da_mk X N ?a ?l ?c ?k (fun _ _ _ _ _ _ us hl => match us, hl with | [_], _ => rfl); (case a => k_is); (case l => k_is); (case c => k_is); (case k => k_is))
      (case d_law_setting => refine' Zd.da_mk X N ?a ?l ?c ?k (fun _ _ _ _ _ _ us hl => match us, hl with | [_], _ => rfl); (case a => k_is); (case l => k_is); (case c => k_is); (case k => k_is))
      (case d_law_in => refine' Zd.da_mk X N ?a ?l ?c ?k (fun _ _ _ _ _ _ us hl => match us, hl with | [_, _, _], _ => rfl); (case a => k_is); (case l => k_is); (case c => k_is); (case k => k_is))
      (case d_law_two => refine' Zd.da_mk X N ?a ?l ?c ?k (fun _ _ _ _ _ _ us hl => match us, hl with | [_, _], _ => rfl); (case a => k_is); (case l => k_is); (case c => k_is); (case k => k_is))
      (case d_law_one => refine' Zd.da_mk X N ?a ?l ?c ?k (fun _ _ _ _ _ _ us hl => match us, hl with | [_, _], _ => rfl); (case a => k_is); (case l => k_is); (case c => k_is); (case k => k_is))
      (case d_law_lines => refine' Zd.da_mk X N ?a ?l ?c ?k (fun _ _ _ _ _ _ us hl => match us, hl with | [_], _ => rfl); (case a => k_is); (case l => k_is); (case c => k_is); (case k => k_is))
      (case d_law_read => refine' Zd.da_mk X N ?a ?l ?c ?k (fun _ _ _ _ _ _ us hl => match us, hl with | [_], _ => rfl); (case a => k_is); (case l => k_is); (case c => k_is); (case k => k_is))
      (case d_law_read_story => refine' Zd.da_mk X N ?a ?l ?c ?k (fun _ _ _ _ _ _ us hl => match us, hl with | [_, _], _ => rfl); (case a => k_is); (case l => k_is); (case c => k_is); (case k => k_is))
      (case d_law_told => refine' Zd.da_mk X N ?a ?l ?c ?k (fun _ _ _ _ _ _ us hl => match us, hl with | [_], _ => rfl); (case a => k_is); (case l => k_is); (case c => k_is); (case k => k_is))
      (case d_law_bent => refine' Zd.da_mk X N ?a ?l ?c ?k (fun _ _ _ _ _ _ us hl => match us, hl with | [_, _, _], _ => rfl); (case a => k_is); (case l => k_is); (case c => k_is); (case k => k_is))
      (case d_law => refine' Zd.da_mk X N ?a ?l ?c ?k (fun _ _ _ _ _ _ us hl => match us, hl with | [_], _ => rfl); (case a => k_is); (case l => k_is); (case c => k_is); (case k => k_is))
      (case b_len => refine' PySem.W.mg_none_of X N ?a; (case a => k_is))
      (case b_isinstance => refine' PySem.W.mg_none_of X N ?a; (case a => k_is))
      (case b_int => refine' PySem.W.mg_none_of X N ?a; (case a => k_is))
      (case b_str => refine' PySem.W.mg_none_of X N ?a; (case a => k_is))
      (case b_bool => refine' PySem.W.mg_none_of X N ?a; (case a => k_is))
      (case b_tuple => refine' PySem.W.mg_none_of X N ?a; (case a => k_is))
      (case b_list => refine' PySem.W.mg_none_of X N ?a; (case a => k_is))
      (case b_abs => refine' PySem.W.mg_none_of X N ?a; (case a => k_is))
      (case b_all => refine' PySem.W.mg_none_of X N ?a; (case a => k_is))
      (case b_zip => refine' PySem.W.mg_none_of X N ?a; (case a => k_is))
      (case b_enumerate => refine' PySem.W.mg_none_of X N ?a; (case a => k_is))
      (case b_sorted => refine' PySem.W.mg_none_of X N ?a; (case a => k_is))
      (case b_set => refine' PySem.W.mg_none_of X N ?a; (case a => k_is))
      (case b_range => refine' PySem.W.mg_none_of X N ?a; (case a => k_is)))
    have BT := Zd.atK (P := fun K => ∃ fI, PySem.BtX.BtTxt K mg 75 fI) X (by
      refine' ⟨_, Zd.bt_mk X N ?aC ?xL ?rV ?sa ?ga ?gg ?nb ?a1 ?t1 ?l1 ?c1 ?kC ?eC ?tC ?hC ?iC ?sC⟩
      (case aC => k_is); (case xL => k_is); (case sa => k_is); (case ga => k_is); (case gg => k_is); (case nb => k_is); (case a1 => k_is); (case t1 => k_is); (case l1 => k_is); (case c1 => k_is); (case kC => k_is); (case eC => k_is); (case tC => k_is); (case hC => k_is); (case iC => k_is)
      (case sC => first | rfl | k_is)
      (case rV => decide +kernel))
    have ST := Zd.atK (P := fun K => ∃ CS, Zd.StX K mg CS ∧ PySem.W.exmOne K (.ref CS) (.ref 75) = some false ∧ PySem.W.exmOne K (.ref CS) (.ref CS) = some true) X (by
      refine' ⟨_, ⟨PySem.W.mg_of X N ?aS, ?xS, ?kS, ?eS, ?tS⟩, Zd.exm_of ?x1 ?x2 ?x3 ?x4, Zd.exm_of ?y1 ?y2 ?y3 ?y4⟩
      (case aS => k_is)
      (case xS => k_exc)
      (case kS => k_is); (case eS => k_is); (case tS => k_is)
      (case x1 => k_is); (case x2 => k_is); (case x3 => k_is)
      (case x4 => first | k_is | rfl)
      (case y1 => k_is); (case y2 => k_is); (case y3 => k_is)
      (case y4 => first | rfl | k_is))
    have TL := Zd.atK (P := fun K => ∃ C, Zd.TlX K mg C) X (by
      refine' ⟨_, PySem.W.mg_of X N ?aT, ⟨?pg, ?hd, ?po, ?st⟩, Zd.in_at ?mk ?kT ?i1 ?i2 ?i3 ?i4 ?i5 (fun _ _ _ _ _ _ us hl => match us, hl with | [_, _], _ => rfl), Zd.me_at ?r1 ?r2 ?r3 ?r4 ?r5 (fun _ _ _ _ _ _ us hl => match us, hl with | [_, _], _ => rfl), Zd.me_at ?w1 ?w2 ?w3 ?w4 ?w5 (fun _ _ _ _ _ _ us hl => match us, hl with | [_, _], _ => rfl), Zd.me_at ?s1 ?s2 ?s3 ?s4 ?s5 (fun _ _ _ _ _ _ us hl => match us, hl with | [_, _, _], _ => rfl), ?f1, ?f2, ?f3⟩
      (case aT => k_is); (case pg => k_is); (case hd => k_is); (case po => k_is); (case st => k_is); (case mk => k_is); (case kT => k_is); (case i1 => k_is); (case i2 => k_is); (case i3 => k_is); (case i4 => k_is); (case i5 => k_is); (case r1 => k_is); (case r2 => k_is); (case r3 => k_is); (case r4 => k_is); (case r5 => k_is); (case w1 => k_is); (case w2 => k_is); (case w3 => k_is); (case w4 => k_is); (case w5 => k_is); (case s1 => k_is); (case s2 => k_is); (case s3 => k_is); (case s4 => k_is); (case s5 => k_is)
      (case f1 => (show PySem.W.findIn _ _ _ = _; k_is)); (case f2 => (show PySem.W.findIn _ _ _ = _; k_is)); (case f3 => (show PySem.W.findIn _ _ _ = _; k_is)))
    obtain ⟨CS, S1, S2, S3⟩ := ST
    refine' Zd.law_end G X hmg TP (cN := ?cN) (cA := ?cA) (cL := ?cL) (PN := ?PN) (PA := ?PA) (PL := 353) (CT := 75) (CS := CS) (Zd.dc_mk X N ?an ?ln ?cn ?kn (fun _ _ _ _ _ _ us hl => match us, hl with | [_], _ => rfl)) (Zd.dc_mk X N ?aa ?la ?ca ?ka (fun _ _ _ _ _ _ us hl => match us, hl with | [_, _], _ => rfl)) BT S1 TL
      S2 S3 ?al ?ll ?cl ?kl ?rN ?rA (Zd.tabIn_of ?m1 ?m2 ?m5 ?m3 ?m4) (Zd.tabIn_of ?o1 ?o2 ?o5 ?o3 ?o4) (PySem.W.km_tabs_of Y _ ?tL) (Zd.codeHdIn_of ?h1 ?h2) ?n1 ?n2 ?n3 ?zN ?zA ?zL
    (case an => k_is); (case ln => k_is); (case cn => k_is); (case kn => k_is); (case aa => k_is); (case la => k_is); (case ca => k_is); (case ka => k_is)
    (case al => k_is); (case ll => k_is); (case cl => k_is); (case kl => k_is)
    (case rN => rfl); (case rA => rfl)
    (case m1 => k_is); (case m2 => k_is)
    (case m5 => rfl)
    (case m3 => k_is)
    (case m4 => rfl)
    (case o1 => k_is); (case o2 => k_is)
    (case o5 => rfl)
    (case o3 => k_is)
    (case o4 => rfl)
    (case h1 => k_is)
    (case tL => exact List.mem_cons_self)
    (case h2 => rfl)
    (case n1 => decide); (case n2 => decide); (case n3 => decide)
    (case zN => rfl); (case zA => rfl); (case zL => rfl)

