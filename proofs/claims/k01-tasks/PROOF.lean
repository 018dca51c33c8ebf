import PyProof.Rows.All
import Wide.All
import OpenK.AllK
import Wide.FinOn
import HandS.ForMost
import HandS.Deep
import HandS.IsInst
import HandS.TupAny
import HandS.TupMul
import HandS.Walk
import HandS.Style
import HandS.RaiseMore
import KE.GoesMore
import PySem.Challenge.RW_taletask_k01_tasks
set_option Elab.async false
set_option linter.all false
set_option maxRecDepth 100000
set_option maxHeartbeats 4000000
/-! A layer of plain data over HandS: readings that come to a function of data. -/
namespace Tl
open PySem L2

abbrev En := List (Option PyData)

/-! ### data at a heap -/
def keyD : Key → PyData
  | .inl i => .int i
  | .inr x => .str x
mutual
inductive Rp (K : PySem.W.Frag) (H : Hp) : V → PyData → Prop
  | non : Rp K H .non .none
  | bl (b : Bool) : Rp K H (.bl b) (.bool b)
  | int (i : Int) : Rp K H (.int i) (.int i)
  | str (x : Str) : Rp K H (.str x) (.str x)
  | lst {a : Addr} {xs : List V} {ds : List PyData} : H a = some (.lst xs) → RpAll K H xs ds → Rp K H (.ref a) (.list ds)
  | tup {a : Addr} {xs : List V} {ds : List PyData} : SqT K H a xs → RpAll K H xs ds → Rp K H (.ref a) (.tuple ds)
  /-- the script, encoded so: it is read alone -/
  | scr {a : Addr} {ns : List Int} : SqL K H a (ns.map V.int) → Rp K H (.ref a) (.dict [(.none, .list (ns.map PyData.int))])
  | dct {a : Addr} {kvs : List (Key × V)} {ks : List (PyData × PyData)} : H a = some (.dK kvs) → RpKv K H kvs ks → Rp K H (.ref a) (.dict ks)
inductive RpAll (K : PySem.W.Frag) (H : Hp) : List V → List PyData → Prop
  | nil : RpAll K H [] []
  | cons {v : V} {vs : List V} {d : PyData} {ds : List PyData} : Rp K H v d → RpAll K H vs ds → RpAll K H (v :: vs) (d :: ds)
inductive RpKv (K : PySem.W.Frag) (H : Hp) : List (Key × V) → List (PyData × PyData) → Prop
  | nil : RpKv K H [] []
  | cons {k : Key} {v : V} {vs : List (Key × V)} {d : PyData} {ds : List (PyData × PyData)} : Rp K H v d → RpKv K H vs ds → RpKv K H ((k, v) :: vs) ((keyD k, d) :: ds)
end
section
variable {K : PySem.W.Frag} {H H' : Hp}
theorem rd_mono (e : Same H H') {a : Addr} {u : HO} (h : Rd H a u) : Rd H' a u := by
  rcases h with h | ⟨o, h⟩
  · exact Or.inl (e a _ h)
  · exact Or.inr ⟨o, e a _ h⟩
theorem sqt_mono (e : Same H H') {a : Addr} {xs : List V} (h : SqT K H a xs) : SqT K H' a xs := by
  rcases h with h | h
  · exact Or.inl (rd_mono e h)
  · exact Or.inr h
mutual
theorem rp_mono (e : Same H H') : ∀ (d : PyData) (v : V), Rp K H v d → Rp K H' v d
  | .none, _, h => by cases h; exact .non
  | .bool b, _, h => by cases h; exact .bl b
  | .int i, _, h => by cases h; exact .int i
  | .str x, _, h => by cases h; exact .str x
  | .list ds, _, h => by
    cases h with
    | lst hs ha => exact .lst (e _ _ hs) (rps_mono e ds _ ha)
  | .tuple ds, _, h => by
    cases h with
    | tup hs ha => exact .tup (sqt_mono e hs) (rps_mono e ds _ ha)
  | .dict ds, _, h => by
    cases h with
    | dct hs ha => exact .dct (e _ _ hs) (rpk_mono e ds _ ha)
    | scr hs => exact .scr (e.seq hs)
theorem rps_mono (e : Same H H') : ∀ (ds : List PyData) (vs : List V), RpAll K H vs ds → RpAll K H' vs ds
  | [], _, h => by cases h; exact .nil
  | d :: ds, _, h => by
    cases h with
    | cons a b => exact .cons (rp_mono e d _ a) (rps_mono e ds _ b)
theorem rpk_mono (e : Same H H') : ∀ (ds : List (PyData × PyData)) (vs : List (Key × V)), RpKv K H vs ds → RpKv K H' vs ds
  | [], _, h => by cases h; exact .nil
  | (k, d) :: ds, _, h => by
    cases h with
    | cons a b => exact .cons (rp_mono e d _ a) (rpk_mono e ds _ b)
end
theorem Rp.mono {v : V} {d : PyData} (h : Rp K H v d) (e : Same H H') : Rp K H' v d := rp_mono e d v h
theorem RpAll.mono {vs : List V} {ds : List PyData} (h : RpAll K H vs ds) (e : Same H H') : RpAll K H' vs ds := rps_mono e ds vs h
theorem RpKv.mono {vs : List (Key × V)} {ds : List (PyData × PyData)} (h : RpKv K H vs ds) (e : Same H H') : RpKv K H' vs ds := rpk_mono e ds vs h

theorem no_none {kvs : List (Key × V)} {d : PyData} {ks : List (PyData × PyData)} (h : RpKv K H kvs ((.none, d) :: ks)) : False := by
  generalize e : ((PyData.none, d) :: ks) = l at h
  cases h with
  | nil => cases e
  | @cons k _ _ _ _ a b =>
    have e1 := congrArg (fun z : List (PyData × PyData) => (z.head?.map Prod.fst)) e
    cases k <;> simp [keyD] at e1
/-! no dict within -/
mutual
def nd : PyData → Bool
  | .list xs => ndAll xs
  | .tuple xs => ndAll xs
  | .dict _ => false
  | _ => true
def ndAll : List PyData → Bool
  | [] => true
  | x :: xs => nd x && ndAll xs
end
mutual
theorem nd_of_lay : ∀ d : PyData, d.canLay0 = true → nd d = true
  | .none, _ => by simp only [nd]
  | .bool b, _ => by simp only [nd]
  | .int i, _ => by simp only [nd]
  | .str x, _ => by simp only [nd]
  | .list ds, h => by
    simp only [nd]
    exact ndAll_of_lay ds (by simpa [PyData.canLay0] using h)
  | .tuple ds, h => by
    simp only [nd]
    exact ndAll_of_lay ds (by simpa [PyData.canLay0] using h)
  | .dict ds, h => by simp [PyData.canLay0] at h
theorem ndAll_of_lay : ∀ ds : List PyData, PyData.canLayAll0 ds = true → ndAll ds = true
  | [], _ => by simp only [ndAll]
  | d :: ds, h => by
    have h' : d.canLay0 = true ∧ PyData.canLayAll0 ds = true := by simpa [PyData.canLayAll0] using h
    simp only [ndAll, nd_of_lay d h'.1, ndAll_of_lay ds h'.2, Bool.and_self]
end
mutual
theorem dp_of : ∀ (d : PyData) (v : V), nd d = true → Rp K H v d → Dp K H v d
  | .none, _, _, h => by cases h; exact .non
  | .bool b, _, _, h => by cases h; exact .bl b
  | .int i, _, _, h => by cases h; exact .int i
  | .str x, _, _, h => by cases h; exact .str x
  | .list ds, _, n, h => by
    cases h with
    | lst hs ha => exact .lst (SqL.of hs) (dps_of ds _ (by simpa only [nd] using n) ha)
  | .tuple ds, _, n, h => by
    cases h with
    | tup hs ha => exact .tup hs (dps_of ds _ (by simpa only [nd] using n) ha)
  | .dict ds, _, n, h => by simp [nd] at n
theorem dps_of : ∀ (ds : List PyData) (vs : List V), ndAll ds = true → RpAll K H vs ds → DpAll K H vs ds
  | [], _, _, h => by cases h; exact .nil
  | d :: ds, _, n, h => by
    cases h with
    | cons a b =>
      have n' : nd d = true ∧ ndAll ds = true := by simpa [ndAll] using n
      exact .cons (dp_of d _ n'.1 a) (dps_of ds _ n'.2 b)
end
theorem Rp.dp {v : V} {d : PyData} (h : Rp K H v d) (s : SeqAt.shaped d = true) : Dp K H v d := dp_of d v (nd_of_lay d (SeqAt.canLay_of_shaped s)) h

/-! lists of data -/
theorem RpAll.length : ∀ {vs : List V} {ds : List PyData}, RpAll K H vs ds → vs.length = ds.length
  | _, [], h => by cases h; rfl
  | _, d :: ds, h => by
    cases h with
    | cons a b => simp [RpAll.length b]
theorem RpAll.get : ∀ {vs : List V} {ds : List PyData} {i : Nat} {d : PyData}, RpAll K H vs ds → ds[i]? = some d → ∃ v, vs[i]? = some v ∧ Rp K H v d
  | _, [], _, _, h, e => by simp at e
  | _, d :: ds, 0, _, h, e => by
    cases h with
    | cons a b =>
      simp at e
      subst e
      exact ⟨_, rfl, a⟩
  | _, d :: ds, i + 1, _, h, e => by
    cases h with
    | cons a b =>
      obtain ⟨v, h1, h2⟩ := RpAll.get (i := i) b (by simpa using e)
      exact ⟨v, by simpa using h1, h2⟩
theorem RpAll.getV {vs : List V} {ds : List PyData} {i : Nat} {v : V} (h : RpAll K H vs ds) (e : vs[i]? = some v) : ∃ d, ds[i]? = some d ∧ Rp K H v d := by
  have hl := h.length
  obtain ⟨hi, _⟩ := List.getElem?_eq_some_iff.mp e
  have hd : ds[i]? = some (ds[i]'(by omega)) := List.getElem?_eq_getElem (by omega)
  obtain ⟨w, h1, h2⟩ := h.get hd
  rw [e] at h1
  cases h1
  exact ⟨_, hd, h2⟩
theorem RpAll.append : ∀ {vs ws : List V} {ds es : List PyData}, RpAll K H vs ds → RpAll K H ws es → RpAll K H (vs ++ ws) (ds ++ es)
  | _, _, [], _, h, g => by cases h; exact g
  | _, _, d :: ds, _, h, g => by
    cases h with
    | cons a b => exact .cons a (RpAll.append b g)
theorem RpAll.drop : ∀ {vs : List V} {ds : List PyData} (n : Nat), RpAll K H vs ds → RpAll K H (vs.drop n) (ds.drop n)
  | _, _, 0, h => h
  | _, [], n + 1, h => by cases h; exact .nil
  | _, d :: ds, n + 1, h => by
    cases h with
    | cons a b => exact RpAll.drop n b
theorem RpAll.take : ∀ {vs : List V} {ds : List PyData} (n : Nat), RpAll K H vs ds → RpAll K H (vs.take n) (ds.take n)
  | _, _, 0, h => by simpa using RpAll.nil
  | _, [], n + 1, h => by cases h; exact .nil
  | _, d :: ds, n + 1, h => by
    cases h with
    | cons a b => exact .cons a (RpAll.take n b)
theorem RpAll.snoc {vs : List V} {ds : List PyData} {v : V} {d : PyData} (h : RpAll K H vs ds) (g : Rp K H v d) : RpAll K H (vs ++ [v]) (ds ++ [d]) := h.append (.cons g .nil)
theorem RpAll.rev : ∀ {vs : List V} {ds : List PyData}, RpAll K H vs ds → RpAll K H vs.reverse ds.reverse
  | _, [], h => by cases h; exact .nil
  | _, d :: ds, h => by
    cases h with
    | cons a b =>
      rw [List.reverse_cons, List.reverse_cons]
      exact (RpAll.rev b).snoc a
theorem RpAll.rep {vs : List V} {ds : List PyData} (h : RpAll K H vs ds) : ∀ n : Nat, RpAll K H (List.replicate n vs).flatten (List.replicate n ds).flatten
  | 0 => .nil
  | n + 1 => by
    rw [List.replicate_succ, List.replicate_succ, List.flatten_cons, List.flatten_cons]
    exact h.append (h.rep n)
theorem RpAll.ints : ∀ {vs : List V} {ns : List Int}, RpAll K H vs (ns.map PyData.int) → vs = ns.map V.int
  | _, [], h => by cases h; rfl
  | _, n :: ns, h => by
    cases h with
    | cons a b =>
      cases a
      rw [RpAll.ints b]
      rfl
theorem RpAll.strs : ∀ {vs : List V} {ns : List Str}, RpAll K H vs (ns.map PyData.str) → vs = ns.map V.str
  | _, [], h => by cases h; rfl
  | _, n :: ns, h => by
    cases h with
    | cons a b =>
      cases a
      rw [RpAll.strs b]
      rfl
theorem RpAll.bls : ∀ {vs : List V} {ns : List Bool}, RpAll K H vs (ns.map PyData.bool) → vs = ns.map V.bl
  | _, [], h => by cases h; rfl
  | _, n :: ns, h => by
    cases h with
    | cons a b =>
      cases a
      rw [RpAll.bls b]
      rfl
theorem RpAll.of_strs : ∀ (ns : List Str), RpAll K H (ns.map V.str) (ns.map PyData.str)
  | [] => .nil
  | n :: ns => .cons (.str n) (RpAll.of_strs ns)
theorem RpAll.of_ints : ∀ (ns : List Int), RpAll K H (ns.map V.int) (ns.map PyData.int)
  | [] => .nil
  | n :: ns => .cons (.int n) (RpAll.of_ints ns)
theorem RpAll.one {vs : List V} {d : PyData} (h : RpAll K H vs [d]) : ∃ v, vs = [v] ∧ Rp K H v d := by
  cases h with
  | cons a b =>
    cases b
    exact ⟨_, rfl, a⟩
theorem RpAll.two {vs : List V} {d e : PyData} (h : RpAll K H vs [d, e]) : ∃ v w, vs = [v, w] ∧ Rp K H v d ∧ Rp K H w e := by
  cases h with
  | cons a b =>
    obtain ⟨w, rfl, c⟩ := b.one
    exact ⟨_, w, rfl, a, c⟩
end

/-! ### how heaps grow: H all that stands, G what is plain data of it -/
structure Gr (H G H' G' : Hp) : Prop where
  hh : Same H H'
  gg : Same G G'
  gh : Same G' H'
  nw : ∀ a o, G' a = some o → G a = some o ∨ H a = none
section
variable {H G H1 G1 H2 G2 : Hp}
theorem Gr.refl (h : Same G H) : Gr H G H G := ⟨Same.refl _, Same.refl _, h, fun _ _ e => .inl e⟩
theorem Gr.trans (a : Gr H G H1 G1) (b : Gr H1 G1 H2 G2) : Gr H G H2 G2 :=
  ⟨a.hh.trans b.hh, a.gg.trans b.gg, b.gh, fun x o e => by
    rcases b.nw x o e with q | q
    · exact a.nw x o q
    · exact .inr (a.hh.free q)⟩
theorem same_upd {p : Addr} {o : HO} (h : H p = none) : Same H (upd H p o) := fun b u q => by
  rw [upd_ne (ne_of_none q h)]
  exact q
theorem none_of_same {G H : Hp} {p : Addr} (h : Same G H) (n : H p = none) : G p = none := h.free n
theorem Gr.new {p : Addr} {o : HO} (h : Same G H) (n : H p = none) : Gr H G (upd H p o) (upd G p o) :=
  ⟨same_upd n, same_upd (h.free n), fun a u e => by
    by_cases q : a = p
    · subst q
      rw [upd_same] at e ⊢
      exact e
    · rw [upd_ne q] at e ⊢
      exact h a u e, fun a u e => by
    by_cases q : a = p
    · subst q
      exact .inr n
    · rw [upd_ne q] at e
      exact .inl e⟩
/-- a new thing that is no plain data yet -/
theorem Gr.hid {p : Addr} {o : HO} (h : Same G H) (n : H p = none) : Gr H G (upd H p o) G :=
  ⟨same_upd n, Same.refl _, h.trans (same_upd n), fun _ _ e => .inl e⟩
/-- a thing of one's own changes -/
theorem Gr.mut {p : Addr} {o : HO} (g : Gr H G H1 G1) (n : H p = none) (m : G1 p = none) : Gr H G (upd H1 p o) G1 :=
  ⟨fun a u e => by
    rw [upd_ne (ne_of_none e n)]
    exact g.hh a u e, g.gg, fun a u e => by
    rw [upd_ne (ne_of_none e m)]
    exact g.gh a u e, g.nw⟩
/-- a thing of one's own becomes plain data -/
theorem Gr.show {p : Addr} {o : HO} (g : Gr H G H1 G1) (n : H p = none) (m : G1 p = none) (e : H1 p = some o) : Gr H G H1 (upd G1 p o) :=
  ⟨g.hh, fun a u q => by
    have q1 := g.gg a u q
    rw [upd_ne (ne_of_none q1 m)]
    exact q1, fun a u q => by
    by_cases z : a = p
    · subst z
      rw [upd_same] at q
      rw [e]
      exact q
    · rw [upd_ne z] at q
      exact g.gh a u q, fun a u q => by
    by_cases z : a = p
    · subst z
      exact .inr n
    · rw [upd_ne z] at q
      exact g.nw a u q⟩
end

/-! ### the slots -/
inductive Kd where
  | val | own
  deriving DecidableEq
abbrev Mk := List (Nat × Kd)
def kd (m : Mk) (i : Nat) : Kd := (m.lookup i).getD .val
def SlotOk (K : PySem.W.Frag) (H0 H G : Hp) : Kd → V → PyData → Prop
  | .val, v, d => Rp K G v d
  | .own, v, d => ∃ p vs ds, v = .ref p ∧ d = .list ds ∧ H p = some (.lst vs) ∧ G p = none ∧ H0 p = none ∧ RpAll K G vs ds
structure Ok (K : PySem.W.Frag) (H0 G0 : Hp) (m : Mk) (σ : St) (ρ : En) (H G : Hp) : Prop where
  gr : Gr H0 G0 H G
  slot : ∀ i d, ρ[i]? = some (some d) → ∃ v, σ[i]? = some (some v) ∧ SlotOk K H0 H G (kd m i) v d
  dis : ∀ i j p d e, i ≠ j → kd m i ≠ .val → kd m j ≠ .val → ρ[i]? = some (some d) → ρ[j]? = some (some e) → σ[i]? = some (some (.ref p)) → σ[j]? = some (some (.ref p)) → False
  len : σ.length = ρ.length
section
variable {K : PySem.W.Frag} {H0 G0 H G H' G' : Hp} {m : Mk} {σ : St} {ρ : En}
theorem SlotOk.grow {k : Kd} {v : V} {d : PyData} (h : SlotOk K H0 H G k v d) (g : Gr H G H' G') : SlotOk K H0 H' G' k v d := by
  cases k with
  | val => exact Rp.mono h g.gg
  | own =>
    obtain ⟨p, vs, ds, e1, e2, e3, e4, e5, e6⟩ := h
    refine ⟨p, vs, ds, e1, e2, g.hh _ _ e3, ?_, e5, e6.mono g.gg⟩
    cases q : G' p with
    | none => rfl
    | some o =>
      rcases g.nw p o q with z | z
      · rw [e4] at z; cases z
      · rw [e3] at z; cases z
theorem Ok.grow (o : Ok K H0 G0 m σ ρ H G) (g : Gr H G H' G') : Ok K H0 G0 m σ ρ H' G' :=
  ⟨o.gr.trans g, fun i d e => by
    obtain ⟨v, h1, h2⟩ := o.slot i d e
    exact ⟨v, h1, h2.grow g⟩, o.dis, o.len⟩
theorem Ok.gh (o : Ok K H0 G0 m σ ρ H G) : Same G H := o.gr.gh
end

/-! ### what a reading comes to -/
/-- what is wanted: the value's data, the heaps grown -/
def Wnt (K : PySem.W.Frag) (H G : Hp) (d : PyData) (Q : VK) : Prop := ∀ v H' G', Gr H G H' G' → Rp K G' v d → Q v H'
def RE (K : PySem.W.Frag) (m : Mk) (t : TE) (f : En → Option PyData) : Prop :=
  ∀ H0 G0 σ ρ H G (Q : VK) d, Ok K H0 G0 m σ ρ H G → f ρ = some d → Wnt K H G d Q → t σ H Q
def RT (K : PySem.W.Frag) (m : Mk) (t : TT) (f : En → Option Bool) : Prop :=
  ∀ H0 G0 σ ρ H G (Q : Bool → Hp → Prop) b, Ok K H0 G0 m σ ρ H G → f ρ = some b → (∀ H' G', Gr H G H' G' → Q b H') → t σ H Q
def RA (K : PySem.W.Frag) (m : Mk) (t : TA) (f : En → Option (List PyData)) : Prop :=
  ∀ H0 G0 σ ρ H G (Q : List V → Hp → Prop) ds, Ok K H0 G0 m σ ρ H G → f ρ = some ds → (∀ vs H' G', Gr H G H' G' → RpAll K G' vs ds → Q vs H') → t σ H Q
structure PDE (X : Cx) (m : Mk) (e : Expr) (t : TE) (f : En → Option PyData) : Prop where
  p : PE X e t
  r : RE X.K m t f
structure PDT (X : Cx) (m : Mk) (e : Expr) (t : TT) (f : En → Option Bool) : Prop where
  p : PT X e t
  r : RT X.K m t f
structure PDW (X : Cx) (m : Mk) (e : Expr) (t : TT) (f : En → Option Bool) : Prop where
  p : PW X e t
  r : RT X.K m t f
structure PDA (X : Cx) (m : Mk) (es : List Expr) (t : TA) (f : En → Option (List PyData)) : Prop where
  p : PA X es t
  r : RA X.K m t f

/-! the functions -/
def fV (i : Nat) : En → Option PyData := fun ρ => (ρ[i]?).join
def fC (d : PyData) : En → Option PyData := fun _ => some d
def f1 (g : PyData → Option PyData) (fa : En → Option PyData) : En → Option PyData := fun ρ => (fa ρ).bind g
def f2 (g : PyData → PyData → Option PyData) (fa fb : En → Option PyData) : En → Option PyData := fun ρ => (fa ρ).bind fun x => (fb ρ).bind fun y => g x y
def fA0 : En → Option (List PyData) := fun _ => some []
def fA (fa : En → Option PyData) (fr : En → Option (List PyData)) : En → Option (List PyData) := fun ρ => (fa ρ).bind fun x => (fr ρ).bind fun xs => some (x :: xs)
def fL (g : List PyData → Option PyData) (fa : En → Option (List PyData)) : En → Option PyData := fun ρ => (fa ρ).bind g
def asB : PyData → Option Bool
  | .bool b => some b
  | _ => none
def fB (fa : En → Option PyData) : En → Option Bool := fun ρ => (fa ρ).bind asB
def fBnd (a b : Option Bool) : Option Bool := match a with
  | some true => b
  | some false => some false
  | none => none
def fBor (a b : Option Bool) : Option Bool := match a with
  | some true => some true
  | some false => b
  | none => none
def fAnd (fa fb : En → Option Bool) : En → Option Bool := fun ρ => fBnd (fa ρ) (fb ρ)
def fOr (fa fb : En → Option Bool) : En → Option Bool := fun ρ => fBor (fa ρ) (fb ρ)
def fNot (fa : En → Option Bool) : En → Option Bool := fun ρ => (fa ρ).map (!·)
def fVB (fa : En → Option Bool) : En → Option PyData := fun ρ => (fa ρ).map PyData.bool
def fIte (fc : En → Option Bool) (fa fb : En → Option PyData) : En → Option PyData := fun ρ => (fc ρ).bind fun c => if c = true then fa ρ else fb ρ

section
variable {X : Cx} {m : Mk} {a b c e : Expr} {ta tb tc te : TE} {fa fb fc fe : En → Option PyData} {pos : Pos}
theorem Gr.of {K : PySem.W.Frag} {H0 G0 : Hp} {σ : St} {ρ : En} {H G : Hp} (o : Ok K H0 G0 m σ ρ H G) : Gr H G H G := Gr.refl o.gh
/-! ### names, constants -/
theorem pd_v (i : Nat) {x : Str} {pos : Pos} (hN : X.N[i]? = some x := by rfl) (hv : Vis X.env.scope x := by first | exact Or.inl rfl | exact Or.inr (Or.inl rfl) | exact Or.inr (Or.inr rfl)) (hk : kd m i = .val := by rfl)
    (hd : (x == ("__debug__" : Str)) = false := by decide) (hcd : (x == ("__classdict__" : Str)) = false := by decide) : PDE X m (.Name x pos) (tVar i) (fV i) := by
  refine ⟨pe_var hN hv hd hcd, fun H0 G0 σ ρ H G Q d o h q => ?_⟩
  have h' : ρ[i]? = some (some d) := by
    unfold fV at h
    cases e : ρ[i]? with
    | none => rw [e] at h; cases h
    | some z => rw [e] at h; rw [show z = some d from h]
  obtain ⟨v, h1, h2⟩ := o.slot i d h'
  rw [hk] at h2
  exact ⟨v, h1, q v H G (.of o) h2⟩
theorem re_c {K : PySem.W.Frag} {v : V} {d : PyData} (hd : ∀ G, Rp K G v d) : RE K m (tC v) (fC d) := by
  intro H0 G0 σ ρ H G Q d' o h q
  cases h
  exact q v H G (.of o) (hd G)
theorem pd_int {i j pos} : PDE X m (.Constant (.int i) j pos) (tC (.int i)) (fC (.int i)) := ⟨pe_int, re_c fun _ => .int i⟩
theorem pd_bl {b j pos} : PDE X m (.Constant (.bool b) j pos) (tC (.bl b)) (fC (.bool b)) := ⟨pe_bl, re_c fun _ => .bl b⟩
theorem pd_non {j pos} : PDE X m (.Constant .none j pos) (tC .non) (fC .none) := ⟨pe_non, re_c fun _ => .non⟩
theorem pd_str {x j pos} : PDE X m (.Constant (.str x) j pos) (tC (.str x)) (fC (.str x)) := ⟨pe_str, re_c fun _ => .str x⟩
/-- a constant of the module -/
theorem pd_glob {x : Str} {v : V} {u : Value} {d : PyData} {pos : Pos} (hg : Gl X x) (hm : X.mg x = some u) (r : RelV v u) (hv : ∀ G, Rp X.K G v d) (hd : (x == ("__debug__" : Str)) = false := by decide) : PDE X m (.Name x pos) (tC v) (fC d) :=
  ⟨pe_glob hg hm r hd, re_c hv⟩
/-! ### arguments -/
theorem pd_a0 : PDA X m [] tNil fA0 := ⟨pa_nil, fun H0 G0 σ ρ H G Q ds o h q => by
  cases h
  exact q [] H G (.of o) .nil⟩
theorem re_cons {K : PySem.W.Frag} {tr : TA} {fr : En → Option (List PyData)} (he : RE K m te fe) (hr : RA K m tr fr) : RA K m (tCons te tr) (fA fe fr) := by
  intro H0 G0 σ ρ H G Q ds o h q
  unfold fA at h
  cases e1 : fe ρ with
  | none => rw [e1] at h; cases h
  | some x =>
    rw [e1] at h
    cases e2 : fr ρ with
    | none => rw [e2] at h; cases h
    | some xs =>
      rw [e2] at h
      have hq : x :: xs = ds := Option.some.inj h
      subst hq
      refine he H0 G0 σ ρ H G _ x o e1 fun v H1 G1 g1 r1 => ?_
      refine hr H0 G0 σ ρ H1 G1 _ xs (o.grow g1) e2 fun vs H2 G2 g2 r2 => ?_
      exact q _ H2 G2 (g1.trans g2) (.cons (r1.mono g2.gg) r2)
theorem pd_a {es : List Expr} {t : TA} {f : En → Option (List PyData)} (ha : PDE X m e te fe) (hr : PDA X m es t f) (hs : starEach (e :: es) X.env = (false, eval e X.env) :: starEach es X.env := by rfl) : PDA X m (e :: es) (tCons te t) (fA fe f) :=
  ⟨pa_cons ha.p hr.p hs, re_cons ha.r hr.r⟩
/-- how many -/
def Cnt (n : Nat) (f : En → Option (List PyData)) : Prop := ∀ ρ ds, f ρ = some ds → ds.length = n
theorem cnt0 : Cnt 0 fA0 := fun _ _ h => by cases h; rfl
theorem cntS {n : Nat} {f : En → Option (List PyData)} (h : Cnt n f) : Cnt (n + 1) (fA fe f) := fun ρ ds e => by
  unfold fA at e
  cases e1 : fe ρ with
  | none => rw [e1] at e; cases e
  | some x =>
    rw [e1] at e
    cases e2 : f ρ with
    | none => rw [e2] at e; cases e
    | some xs =>
      rw [e2] at e
      have hq : x :: xs = ds := Option.some.inj e
      subst hq
      simp [h ρ xs e2]
def fTup (fa : En → Option (List PyData)) : En → Option PyData := fun ρ => fL (fun ds => some (.tuple ds)) fa ρ
def fLst (fa : En → Option (List PyData)) : En → Option PyData := fun ρ => fL (fun ds => some (.list ds)) fa ρ
theorem fL_some {g : List PyData → Option PyData} {f : En → Option (List PyData)} {ρ : En} {d : PyData} (h : fL g f ρ = some d) : ∃ ds, f ρ = some ds ∧ g ds = some d := by
  unfold fL at h
  cases e : f ρ with
  | none => rw [e] at h; cases h
  | some ds => rw [e] at h; exact ⟨ds, rfl, h⟩
theorem f1_some {g : PyData → Option PyData} {f : En → Option PyData} {ρ : En} {d : PyData} (h : f1 g f ρ = some d) : ∃ x, f ρ = some x ∧ g x = some d := by
  unfold f1 at h
  cases e : f ρ with
  | none => rw [e] at h; cases h
  | some ds => rw [e] at h; exact ⟨ds, rfl, h⟩
theorem f2_some {g : PyData → PyData → Option PyData} {f f' : En → Option PyData} {ρ : En} {d : PyData} (h : f2 g f f' ρ = some d) : ∃ x y, f ρ = some x ∧ f' ρ = some y ∧ g x y = some d := by
  unfold f2 at h
  cases e : f ρ with
  | none => rw [e] at h; cases h
  | some x =>
    rw [e] at h
    cases e' : f' ρ with
    | none => rw [e'] at h; cases h
    | some y => rw [e'] at h; exact ⟨x, y, rfl, rfl, h⟩
theorem fB_some {f : En → Option PyData} {ρ : En} {b : Bool} (h : fB f ρ = some b) : f ρ = some (.bool b) := by
  unfold fB at h
  cases e : f ρ with
  | none => rw [e] at h; cases h
  | some x =>
    rw [e] at h
    cases x with
    | bool c => rw [show c = b from Option.some.inj h]
    | none => cases h
    | int _ => cases h
    | str _ => cases h
    | list _ => cases h
    | tuple _ => cases h
    | dict _ => cases h
theorem pd_tup {es : List Expr} {t : TA} {f : En → Option (List PyData)} {n x1 : Nat} (h : PDA X m es t f) (hn : Cnt n f) (hz : n ≤ 1000 := by decide) : PDE X m (.Tuple es x1 pos) (tTup t) (fTup f) := by
  refine ⟨pe_tup h.p, fun H0 G0 σ ρ H G Q d o e q => ?_⟩
  obtain ⟨ds, e1, e2⟩ := fL_some e
  cases e2
  refine h.r H0 G0 σ ρ H G _ ds o e1 fun vs H1 G1 g1 r1 => ⟨?_, fun p hp => ?_⟩
  · have := hn ρ ds e1
    have := r1.length
    exact Nat.le_of_lt (small1000 (by omega))
  · have g2 : Gr H1 G1 (upd H1 p (.tup vs)) (upd G1 p (.tup vs)) := Gr.new g1.gh hp
    exact q _ _ _ (g1.trans g2) (.tup (SqT.of upd_same) (r1.mono g2.gg))
theorem pd_lst {es : List Expr} {t : TA} {f : En → Option (List PyData)} {n : Nat} (h : PDA X m es t f) (hn : Cnt n f) (hz : n ≤ 1000 := by decide) : PDE X m (.List es pos) (tLst t) (fLst f) := by
  refine ⟨pe_lst h.p, fun H0 G0 σ ρ H G Q d o e q => ?_⟩
  obtain ⟨ds, e1, e2⟩ := fL_some e
  cases e2
  refine h.r H0 G0 σ ρ H G _ ds o e1 fun vs H1 G1 g1 r1 => ⟨?_, fun p hp => ?_⟩
  · have := hn ρ ds e1
    have := r1.length
    exact Nat.le_of_lt (small1000 (by omega))
  · have g2 : Gr H1 G1 (upd H1 p (.lst vs)) (upd G1 p (.lst vs)) := Gr.new g1.gh hp
    exact q _ _ _ (g1.trans g2) (.lst upd_same (r1.mono g2.gg))

/-! ### operators by values -/
/-- the rule r does with data what g says -/
def R2ok (K : PySem.W.Frag) (r : R2) (g : PyData → PyData → Option PyData) : Prop :=
  ∀ H G x y d e z (Q : VK), Same G H → Rp K G x d → Rp K G y e → g d e = some z → Wnt K H G z Q → r x y H Q
def R1ok (K : PySem.W.Frag) (r : V → Hp → VK → Prop) (g : PyData → Option PyData) : Prop :=
  ∀ H G x d z (Q : VK), Same G H → Rp K G x d → g d = some z → Wnt K H G z Q → r x H Q
def RLok (K : PySem.W.Frag) (r : List V → Hp → VK → Prop) (g : List PyData → Option PyData) : Prop :=
  ∀ H G xs ds z (Q : VK), Same G H → RpAll K G xs ds → g ds = some z → Wnt K H G z Q → r xs H Q
theorem Wnt.grow {K : PySem.W.Frag} {H G H1 G1 : Hp} {d : PyData} {Q : VK} (q : Wnt K H G d Q) (g : Gr H G H1 G1) : Wnt K H1 G1 d Q := fun v H' G' g' r => q v H' G' (g.trans g') r
theorem Wnt.now {K : PySem.W.Frag} {H G : Hp} {d : PyData} {Q : VK} (q : Wnt K H G d Q) (h : Same G H) {v : V} (r : Rp K G v d) : Q v H := q v H G (Gr.refl h) r
theorem Wnt.tup {K : PySem.W.Frag} {H G : Hp} {ds : List PyData} {Q : VK} (q : Wnt K H G (.tuple ds) Q) (h : Same G H) {vs : List V} (r : RpAll K G vs ds) {p : Addr} (hp : H p = none) : Q (.ref p) (upd H p (.tup vs)) := by
  have g2 : Gr H G (upd H p (.tup vs)) (upd G p (.tup vs)) := Gr.new h hp
  exact q _ _ _ g2 (.tup (SqT.of upd_same) (r.mono g2.gg))
theorem Wnt.lst {K : PySem.W.Frag} {H G : Hp} {ds : List PyData} {Q : VK} (q : Wnt K H G (.list ds) Q) (h : Same G H) {vs : List V} (r : RpAll K G vs ds) {p : Addr} (hp : H p = none) : Q (.ref p) (upd H p (.lst vs)) := by
  have g2 : Gr H G (upd H p (.lst vs)) (upd G p (.lst vs)) := Gr.new h hp
  exact q _ _ _ g2 (.lst upd_same (r.mono g2.gg))
theorem re_op {K : PySem.W.Frag} {r : R2} {g : PyData → PyData → Option PyData} (hr : R2ok K r g) (ha : RE K m ta fa) (hb : RE K m tb fb) : RE K m (tOp r ta tb) (f2 g fa fb) := by
  intro H0 G0 σ ρ H G Q d o h q
  obtain ⟨x, y, e1, e2, e3⟩ := f2_some h
  refine ha H0 G0 σ ρ H G _ x o e1 fun v H1 G1 g1 r1 => ?_
  refine hb H0 G0 σ ρ H1 G1 _ y (o.grow g1) e2 fun u H2 G2 g2 r2 => ?_
  exact hr H2 G2 v u x y d Q g2.gh (r1.mono g2.gg) r2 e3 ((q.grow g1).grow g2)
theorem pd_op {op : Operator} {r : R2} {g : PyData → PyData → Option PyData} (ho : OpR X (binaryOp op) r) (hr : R2ok X.K r g) (ha : PDE X m a ta fa) (hb : PDE X m b tb fb) : PDE X m (.BinOp a op b pos) (tOp r ta tb) (f2 g fa fb) :=
  ⟨pe_op ho ha.p hb.p, re_op hr ha.r hb.r⟩
theorem pd_cmp {op : CmpOp} {r : R2} {g : PyData → PyData → Option PyData} (ho : OpR X (compareOp op) r) (hr : R2ok X.K r g) (hm : behindInMarks op b = false) (ha : PDE X m a ta fa) (hb : PDE X m b tb fb) : PDE X m (.Compare a [op] [b] pos) (tOp r ta tb) (f2 g fa fb) :=
  ⟨pe_cmpR ho ha.p hb.p hm, re_op hr ha.r hb.r⟩
/-- an expression that is True or False, as a test -/
theorem rt_b {K : PySem.W.Frag} (h : RE K m te fe) : RT K m (tTest te) (fB fe) := by
  intro H0 G0 σ ρ H G Q d o e q
  refine h H0 G0 σ ρ H G _ _ o (fB_some e) fun v H1 G1 g1 r1 => ?_
  cases r1
  exact ⟨d, rfl, q H1 G1 g1⟩
theorem pdt_cmp {op : CmpOp} {r : R2} {g : PyData → PyData → Option PyData} (ho : OpR X (compareOp op) r) (hr : R2ok X.K r g) (hm : behindInMarks op b = false) (ha : PDE X m a ta fa) (hb : PDE X m b tb fb) : PDT X m (.Compare a [op] [b] pos) (tTest (tOp r ta tb)) (fB (f2 g fa fb)) :=
  ⟨pt_cmpR ho ha.p hb.p hm, rt_b (re_op hr ha.r hb.r)⟩
theorem pdt_v (h : PDE X m e te fe) (he : ∀ whole, isTrue e X.env whole = (do let v ← whole; standAt e.pos; holding [v] (truthy v)) := by intro _; rfl) : PDT X m e (tB te) (fB fe) :=
  ⟨pt_val h.p he, rt_b h.r⟩
/-! and, or, not -/
variable {t u : TT} {ft fu : En → Option Bool} {rest : List Expr}
theorem pdw_and1 (h : PDT X m a t ft) : PDW X m (.BoolOp .And [a] pos) t ft := ⟨pw_and1 h.p, h.r⟩
theorem pdw_or1 (h : PDT X m a t ft) : PDW X m (.BoolOp .Or [a] pos) t ft := ⟨pw_or1 h.p, h.r⟩
theorem rt_and {K : PySem.W.Frag} (h : RT K m t ft) (h' : RT K m u fu) : RT K m (tAnd t u) (fAnd ft fu) := by
  intro H0 G0 σ ρ H G Q d o e q
  unfold fAnd fBnd at e
  cases e1 : ft ρ with
  | none => rw [e1] at e; cases e
  | some k =>
    rw [e1] at e
    refine h H0 G0 σ ρ H G _ k o e1 fun H1 G1 g1 => ?_
    cases k with
    | true => exact h' H0 G0 σ ρ H1 G1 Q d (o.grow g1) e fun H2 G2 g2 => q H2 G2 (g1.trans g2)
    | false =>
      have : false = d := Option.some.inj e
      subst this
      exact q H1 G1 g1
theorem rt_or {K : PySem.W.Frag} (h : RT K m t ft) (h' : RT K m u fu) : RT K m (tOr t u) (fOr ft fu) := by
  intro H0 G0 σ ρ H G Q d o e q
  unfold fOr fBor at e
  cases e1 : ft ρ with
  | none => rw [e1] at e; cases e
  | some k =>
    rw [e1] at e
    refine h H0 G0 σ ρ H G _ k o e1 fun H1 G1 g1 => ?_
    cases k with
    | false => exact h' H0 G0 σ ρ H1 G1 Q d (o.grow g1) e fun H2 G2 g2 => q H2 G2 (g1.trans g2)
    | true =>
      have : true = d := Option.some.inj e
      subst this
      exact q H1 G1 g1
theorem pdw_and (h : PDT X m a t ft) (h' : PDW X m (.BoolOp .And (b :: rest) pos) u fu) : PDW X m (.BoolOp .And (a :: b :: rest) pos) (tAnd t u) (fAnd ft fu) := ⟨pw_and h.p h'.p, rt_and h.r h'.r⟩
theorem pdw_or (h : PDT X m a t ft) (h' : PDW X m (.BoolOp .Or (b :: rest) pos) u fu) : PDW X m (.BoolOp .Or (a :: b :: rest) pos) (tOr t u) (fOr ft fu) := ⟨pw_or h.p h'.p, rt_or h.r h'.r⟩
theorem pdt_w (h : PDW X m e t ft) : PDT X m e t ft := ⟨h.p.pt, h.r⟩
theorem rt_not {K : PySem.W.Frag} (h : RT K m t ft) : RT K m (tNot t) (fNot ft) := by
  intro H0 G0 σ ρ H G Q d o e q
  unfold fNot at e
  cases e1 : ft ρ with
  | none => rw [e1] at e; cases e
  | some k =>
    rw [e1] at e
    have : (!k) = d := Option.some.inj e
    subst this
    exact h H0 G0 σ ρ H G _ k o e1 fun H1 G1 g1 => q H1 G1 g1
theorem pdt_not (h : PDT X m a t ft) : PDT X m (.UnaryOp .Not a pos) (tNot t) (fNot ft) := ⟨pt_not h.p, rt_not h.r⟩
/-- .. as values: all are True or False -/
def fAndV (fa fb : En → Option PyData) : En → Option PyData := fun ρ => (fa ρ).bind fun x => match x with
  | .bool true => fb ρ
  | .bool false => some (.bool false)
  | _ => none
def fOrV (fa fb : En → Option PyData) : En → Option PyData := fun ρ => (fa ρ).bind fun x => match x with
  | .bool true => some (.bool true)
  | .bool false => fb ρ
  | _ => none
def notD : PyData → Option PyData
  | .bool b => some (.bool !b)
  | _ => none
theorem pd_one {op} (h : PDE X m a ta fa) : PDE X m (.BoolOp op [a] pos) ta fa := ⟨pe_one h.p, h.r⟩
theorem pd_and (ha : PDE X m a ta fa) (hb : PDE X m (.BoolOp .And (b :: rest) pos) tb fb) : PDE X m (.BoolOp .And (a :: b :: rest) pos) (tAndV ta tb) (fAndV fa fb) := by
  refine ⟨pe_and ha.p hb.p, fun H0 G0 σ ρ H G Q d o e q => ?_⟩
  unfold fAndV at e
  cases e1 : fa ρ with
  | none => rw [e1] at e; cases e
  | some x =>
    rw [e1] at e
    refine ha.r H0 G0 σ ρ H G _ x o e1 fun v H1 G1 g1 r1 => ?_
    cases x with
    | bool k =>
      cases r1
      refine ⟨k, rfl, ?_⟩
      cases k with
      | true => exact hb.r H0 G0 σ ρ H1 G1 Q d (o.grow g1) e (q.grow g1)
      | false =>
        have : PyData.bool false = d := Option.some.inj e
        subst this
        exact q _ H1 G1 g1 (.bl false)
    | none => cases e
    | int _ => cases e
    | str _ => cases e
    | list _ => cases e
    | tuple _ => cases e
    | dict _ => cases e
theorem pd_or (ha : PDE X m a ta fa) (hb : PDE X m (.BoolOp .Or (b :: rest) pos) tb fb) : PDE X m (.BoolOp .Or (a :: b :: rest) pos) (tOrV ta tb) (fOrV fa fb) := by
  refine ⟨pe_or ha.p hb.p, fun H0 G0 σ ρ H G Q d o e q => ?_⟩
  unfold fOrV at e
  cases e1 : fa ρ with
  | none => rw [e1] at e; cases e
  | some x =>
    rw [e1] at e
    refine ha.r H0 G0 σ ρ H G _ x o e1 fun v H1 G1 g1 r1 => ?_
    cases x with
    | bool k =>
      cases r1
      refine ⟨k, rfl, ?_⟩
      cases k with
      | false => exact hb.r H0 G0 σ ρ H1 G1 Q d (o.grow g1) e (q.grow g1)
      | true =>
        have : PyData.bool true = d := Option.some.inj e
        subst this
        exact q _ H1 G1 g1 (.bl true)
    | none => cases e
    | int _ => cases e
    | str _ => cases e
    | list _ => cases e
    | tuple _ => cases e
    | dict _ => cases e
theorem pd_not (ha : PDE X m a ta fa) : PDE X m (.UnaryOp .Not a pos) (tNotV ta) (f1 notD fa) := by
  refine ⟨pe_not ha.p, fun H0 G0 σ ρ H G Q d o e q => ?_⟩
  obtain ⟨x, e1, e2⟩ := f1_some e
  refine ha.r H0 G0 σ ρ H G _ x o e1 fun v H1 G1 g1 r1 => ?_
  cases x with
  | bool k =>
    cases r1
    have : PyData.bool (!k) = d := Option.some.inj e2
    subst this
    exact ⟨k, rfl, q _ H1 G1 g1 (.bl _)⟩
  | none => cases e2
  | int _ => cases e2
  | str _ => cases e2
  | list _ => cases e2
  | tuple _ => cases e2
  | dict _ => cases e2
/-- a if t else b -/
theorem pd_ite (hc : PDT X m c t ft) (ha : PDE X m a ta fa) (hb : PDE X m b tb fb) : PDE X m (.IfExp c a b pos) (tIf t ta tb) (fIte ft fa fb) := by
  refine ⟨pe_ifExp hc.p ha.p hb.p, fun H0 G0 σ ρ H G Q d o e q => ?_⟩
  unfold fIte at e
  cases e1 : ft ρ with
  | none => rw [e1] at e; cases e
  | some k =>
    rw [e1] at e
    refine hc.r H0 G0 σ ρ H G _ k o e1 fun H1 G1 g1 => ?_
    cases k with
    | true => exact ha.r H0 G0 σ ρ H1 G1 Q d (o.grow g1) e (q.grow g1)
    | false => exact hb.r H0 G0 σ ρ H1 G1 Q d (o.grow g1) e (q.grow g1)
end
end Tl

/-! The operations on data. -/
namespace Tl
open PySem PySem.Spec PyProof.Rows L2

section
variable {X : Cx} {m : Mk} {a b c e : Expr} {ta tb tc te : TE} {fa fb fc fe : En → Option PyData} {pos : Pos}
/-! ### == and != -/
def scD : PyData → PyData → Bool
  | .none, .none => true | .none, .int _ => true | .int _, .none => true | .none, .bool _ => true | .bool _, .none => true | .none, .str _ => true | .str _, .none => true
  | .int _, .int _ => true | .bool _, .bool _ => true | .str _, .str _ => true
  | .int _, .str _ => true | .str _, .int _ => true | .bool _, .str _ => true | .str _, .bool _ => true
  | _, _ => false
theorem scD_ok {K : PySem.W.Frag} {G : Hp} {x y : V} {d e : PyData} (h : scD d e = true) (rx : Rp K G x d) (ry : Rp K G y e) : scal x y = true ∧ decide (x = y) = PyData.eqv d e := by
  cases d <;> cases e <;> simp [scD] at h <;> cases rx <;> cases ry <;> refine ⟨rfl, ?_⟩ <;> simp [PyData.eqv, Bool.beq_eq_decide_eq]
def eqD (d e : PyData) : Option Bool := if (scD d e || (SeqAt.shaped d && SeqAt.shaped e)) = true then some (PyData.eqv d e) else none
def rEqA (K : PySem.W.Frag) : R2 := fun x y H Q => rEq x y H Q ∨ rEqD K x y H Q
def rNeA (K : PySem.W.Frag) : R2 := fun x y H Q => rNe x y H Q ∨ rNeD K x y H Q
def eqP (d e : PyData) : Option PyData := (eqD d e).map .bool
def neP (d e : PyData) : Option PyData := (eqD d e).map fun b => .bool (!b)
theorem eq_ok {K : PySem.W.Frag} : R2ok K (rEqA K) eqP := by
  intro H G x y d e z Q s rx ry e1 q
  unfold eqP eqD at e1
  by_cases h : (scD d e || (SeqAt.shaped d && SeqAt.shaped e)) = true
  · rw [if_pos h] at e1
    have : PyData.bool (PyData.eqv d e) = z := Option.some.inj e1
    subst this
    by_cases h1 : scD d e = true
    · obtain ⟨q1, q2⟩ := scD_ok h1 rx ry
      refine .inl ⟨q1, ?_⟩
      rw [q2]
      exact q.now s (.bl _)
    · have h2 : SeqAt.shaped d = true ∧ SeqAt.shaped e = true := by simpa [h1] using h
      exact .inr ⟨d, e, (rx.mono s).dp h2.1, (ry.mono s).dp h2.2, h2.1, h2.2, q.now s (.bl _)⟩
  · rw [if_neg h] at e1
    cases e1
theorem ne_ok {K : PySem.W.Frag} : R2ok K (rNeA K) neP := by
  intro H G x y d e z Q s rx ry e1 q
  unfold neP eqD at e1
  by_cases h : (scD d e || (SeqAt.shaped d && SeqAt.shaped e)) = true
  · rw [if_pos h] at e1
    have : PyData.bool (!PyData.eqv d e) = z := Option.some.inj e1
    subst this
    by_cases h1 : scD d e = true
    · obtain ⟨q1, q2⟩ := scD_ok h1 rx ry
      refine .inl ⟨q1, ?_⟩
      rw [q2]
      exact q.now s (.bl _)
    · have h2 : SeqAt.shaped d = true ∧ SeqAt.shaped e = true := by simpa [h1] using h
      exact .inr ⟨d, e, (rx.mono s).dp h2.1, (ry.mono s).dp h2.2, h2.1, h2.2, q.now s (.bl _)⟩
  · rw [if_neg h] at e1
    cases e1
theorem op_eqA (hu : X.A.units + 64 < cLine) : OpR X (compareOp .Eq) (rEqA X.K) := op_eq.or (op_eqD hu)
theorem op_neA (hu : X.A.units + 64 < cLine) : OpR X (compareOp .NotEq) (rNeA X.K) := op_ne.or (op_neD hu)
theorem pd_eq (hu : X.A.units + 64 < cLine) (ha : PDE X m a ta fa) (hb : PDE X m b tb fb) : PDE X m (.Compare a [.Eq] [b] pos) (tOp (rEqA X.K) ta tb) (f2 eqP fa fb) := pd_cmp (op_eqA hu) eq_ok (nomark _) ha hb
theorem pd_ne (hu : X.A.units + 64 < cLine) (ha : PDE X m a ta fa) (hb : PDE X m b tb fb) : PDE X m (.Compare a [.NotEq] [b] pos) (tOp (rNeA X.K) ta tb) (f2 neP fa fb) := pd_cmp (op_neA hu) ne_ok (nomark _) ha hb
theorem pdt_eq (hu : X.A.units + 64 < cLine) (ha : PDE X m a ta fa) (hb : PDE X m b tb fb) : PDT X m (.Compare a [.Eq] [b] pos) (tTest (tOp (rEqA X.K) ta tb)) (fB (f2 eqP fa fb)) := pdt_cmp (op_eqA hu) eq_ok (nomark _) ha hb
theorem pdt_ne (hu : X.A.units + 64 < cLine) (ha : PDE X m a ta fa) (hb : PDE X m b tb fb) : PDT X m (.Compare a [.NotEq] [b] pos) (tTest (tOp (rNeA X.K) ta tb)) (fB (f2 neP fa fb)) := pdt_cmp (op_neA hu) ne_ok (nomark _) ha hb

/-! ### arithmetic -/
def int2 (g : Int → Int → Option PyData) : PyData → PyData → Option PyData
  | .int i, .int j => g i j
  | _, _ => none
theorem int2_some {g : Int → Int → Option PyData} {d e z : PyData} (h : int2 g d e = some z) : ∃ i j, d = .int i ∧ e = .int j ∧ g i j = some z := by
  cases d <;> cases e <;> simp [int2] at h
  exact ⟨_, _, rfl, rfl, h⟩
def subD := int2 fun i j => some (.int (i - j))
def ltD := int2 fun i j => some (.bool (decide (i < j)))
def leI := int2 fun i j => some (.bool (decide (i ≤ j)))
def gtD := int2 fun i j => some (.bool (decide (j < i)))
def geD := int2 fun i j => some (.bool (decide (j ≤ i)))
/-- a written divisor -/
def modD := int2 fun i j => if 0 < j then some (.int (i % j)) else none
def fdvD := int2 fun i j => if 0 < j ∧ j < 1073741824 then some (.int (i / j)) else none
theorem rI0_int {K : PySem.W.Frag} {g : Int → Int → Int} : R2ok K (rI0 fun i j => .int (g i j)) (int2 fun i j => some (.int (g i j))) := by
  intro H G x y d e z Q s rx ry e1 q
  obtain ⟨i, j, rfl, rfl, e2⟩ := int2_some e1
  cases rx
  cases ry
  cases e2
  exact ⟨i, j, rfl, rfl, q.now s (.int _)⟩
theorem rI0_bl {K : PySem.W.Frag} {g : Int → Int → Bool} : R2ok K (rI0 fun i j => .bl (g i j)) (int2 fun i j => some (.bool (g i j))) := by
  intro H G x y d e z Q s rx ry e1 q
  obtain ⟨i, j, rfl, rfl, e2⟩ := int2_some e1
  cases rx
  cases ry
  cases e2
  exact ⟨i, j, rfl, rfl, q.now s (.bl _)⟩
theorem pd_sub (ha : PDE X m a ta fa) (hb : PDE X m b tb fb) : PDE X m (.BinOp a .Sub b pos) (tOp (rI0 fun i j => .int (i - j)) ta tb) (f2 subD fa fb) := pd_op op_sub rI0_int ha hb
theorem pd_lt (ha : PDE X m a ta fa) (hb : PDE X m b tb fb) : PDE X m (.Compare a [.Lt] [b] pos) (tOp (rI0 fun i j => .bl (decide (i < j))) ta tb) (f2 ltD fa fb) := pd_cmp op_lt rI0_bl (nomark _) ha hb
theorem pd_gt (ha : PDE X m a ta fa) (hb : PDE X m b tb fb) : PDE X m (.Compare a [.Gt] [b] pos) (tOp (rI0 fun i j => .bl (decide (j < i))) ta tb) (f2 gtD fa fb) := pd_cmp op_gt rI0_bl (nomark _) ha hb
theorem pd_ge (ha : PDE X m a ta fa) (hb : PDE X m b tb fb) : PDE X m (.Compare a [.GtE] [b] pos) (tOp (rI0 fun i j => .bl (decide (j ≤ i))) ta tb) (f2 geD fa fb) := pd_cmp op_ge rI0_bl (nomark _) ha hb
theorem pdt_lt (ha : PDE X m a ta fa) (hb : PDE X m b tb fb) : PDT X m (.Compare a [.Lt] [b] pos) (tTest (tOp (rI0 fun i j => .bl (decide (i < j))) ta tb)) (fB (f2 ltD fa fb)) := pdt_cmp op_lt rI0_bl (nomark _) ha hb
theorem pdt_gt (ha : PDE X m a ta fa) (hb : PDE X m b tb fb) : PDT X m (.Compare a [.Gt] [b] pos) (tTest (tOp (rI0 fun i j => .bl (decide (j < i))) ta tb)) (fB (f2 gtD fa fb)) := pdt_cmp op_gt rI0_bl (nomark _) ha hb
theorem pdt_ge (ha : PDE X m a ta fa) (hb : PDE X m b tb fb) : PDT X m (.Compare a [.GtE] [b] pos) (tTest (tOp (rI0 fun i j => .bl (decide (j ≤ i))) ta tb)) (fB (f2 geD fa fb)) := pdt_cmp op_ge rI0_bl (nomark _) ha hb
/-- <= of ints, of texts -/
def leD : PyData → PyData → Option PyData
  | .int i, .int j => some (.bool (decide (i ≤ j)))
  | .str x, .str y => some (.bool (!decide (y.cps.toList < x.cps.toList)))
  | _, _ => none
def rLeA : R2 := fun x y H Q => rI0 (fun i j => .bl (decide (i ≤ j))) x y H Q ∨ ∃ i j, x = .str i ∧ y = .str j ∧ Q (.bl (!decide (j.cps.toList < i.cps.toList))) H
theorem op_leA : OpR X (compareOp .LtE) rLeA := op_le.or op_le_str
theorem le_ok {K : PySem.W.Frag} : R2ok K rLeA leD := by
  intro H G x y d e z Q s rx ry e1 q
  unfold leD at e1
  split at e1
  · cases rx
    cases ry
    cases e1
    exact .inl ⟨_, _, rfl, rfl, q.now s (.bl _)⟩
  · cases rx
    cases ry
    cases e1
    exact .inr ⟨_, _, rfl, rfl, q.now s (.bl _)⟩
  · cases e1
theorem pd_le (ha : PDE X m a ta fa) (hb : PDE X m b tb fb) : PDE X m (.Compare a [.LtE] [b] pos) (tOp rLeA ta tb) (f2 leD fa fb) := pd_cmp op_leA le_ok (nomark _) ha hb
theorem pdt_le (ha : PDE X m a ta fa) (hb : PDE X m b tb fb) : PDT X m (.Compare a [.LtE] [b] pos) (tTest (tOp rLeA ta tb)) (fB (f2 leD fa fb)) := pdt_cmp op_leA le_ok (nomark _) ha hb
/-- a <= b <= c -/
def fLele (fa fb fc : En → Option PyData) : En → Option PyData := fun ρ => (fa ρ).bind fun x => (fb ρ).bind fun y => (leD x y).bind fun z => match z with
  | .bool true => (fc ρ).bind fun w => leD y w
  | .bool false => some (.bool false)
  | _ => none
theorem leD_bool {d e z : PyData} (h : leD d e = some z) : ∃ k, z = .bool k := by
  cases d <;> cases e <;> simp [leD] at h <;> exact ⟨_, h.symm⟩
theorem re_lele {K : PySem.W.Frag} (ha : RE K m ta fa) (hb : RE K m tb fb) (hc : RE K m tc fc) : RE K m (tChain rLeA rLeA ta tb tc) (fLele fa fb fc) := by
  intro H0 G0 σ ρ H G Q d o h q
  unfold fLele at h
  cases e1 : fa ρ with
  | none => rw [e1] at h; cases h
  | some x =>
    rw [e1] at h
    cases e2 : fb ρ with
    | none => rw [e2] at h; cases h
    | some y =>
      rw [e2] at h
      cases e3 : leD x y with
      | none => simp [e3] at h
      | some z =>
        obtain ⟨k, rfl⟩ := leD_bool e3
        refine ha H0 G0 σ ρ H G _ x o e1 fun v H1 G1 g1 r1 => ?_
        refine hb H0 G0 σ ρ H1 G1 _ y (o.grow g1) e2 fun u H2 G2 g2 r2 => ?_
        refine le_ok H2 G2 v u x y _ _ g2.gh (r1.mono g2.gg) r2 e3 fun w H3 G3 g3 r3 => ?_
        cases r3
        refine ⟨k, rfl, ?_⟩
        cases k with
        | true =>
          show tc σ H3 _
          cases e4 : fc ρ with
          | none => simp [e3, e4] at h
          | some w =>
            have h' : leD y w = some d := by simpa [e3, e4] using h
            refine hc H0 G0 σ ρ H3 G3 _ w (((o.grow g1).grow g2).grow g3) e4 fun z4 H4 G4 g4 r4 => ?_
            exact le_ok H4 G4 u z4 y w d Q g4.gh ((r2.mono g3.gg).mono g4.gg) r4 h' ((((q.grow g1).grow g2).grow g3).grow g4)
        | false =>
          have h' : PyData.bool false = d := by simpa [e3] using h
          subst h'
          exact q _ H3 G3 ((g1.trans g2).trans g3) (.bl false)
theorem pd_lele (ha : PDE X m a ta fa) (hb : PDE X m b tb fb) (hc : PDE X m c tc fc) : PDE X m (.Compare a [.LtE, .LtE] [b, c] pos) (tChain rLeA rLeA ta tb tc) (fLele fa fb fc) :=
  ⟨pe_chain op_leA op_leA ha.p hb.p hc.p (nomark _), re_lele ha.r hb.r hc.r⟩
theorem pdt_lele (ha : PDE X m a ta fa) (hb : PDE X m b tb fb) (hc : PDE X m c tc fc) : PDT X m (.Compare a [.LtE, .LtE] [b, c] pos) (tTest (tChain rLeA rLeA ta tb tc)) (fB (fLele fa fb fc)) :=
  ⟨pt_chain op_leA op_leA ha.p hb.p hc.p (nomark _), rt_b (re_lele ha.r hb.r hc.r)⟩
theorem pd_mod (ha : PDE X m a ta fa) (hb : PDE X m b tb fb) : PDE X m (.BinOp a .Mod b pos) (tOp (rI (fun _ j => 0 < j) fun i j => .int (i % j)) ta tb) (f2 modD fa fb) := pd_op op_mod (by
  intro H G x y d e z Q s rx ry e1 q
  obtain ⟨i, j, rfl, rfl, e2⟩ := int2_some e1
  cases rx
  cases ry
  by_cases h : 0 < j
  · rw [if_pos h] at e2
    cases e2
    exact ⟨i, j, rfl, rfl, h, q.now s (.int _)⟩
  · rw [if_neg h] at e2
    cases e2) ha hb
theorem pd_fdv (ha : PDE X m a ta fa) (hb : PDE X m b tb fb) : PDE X m (.BinOp a .FloorDiv b pos) (tOp (rI CDiv fun i j => .int (i / j)) ta tb) (f2 fdvD fa fb) := pd_op op_fdiv (by
  intro H G x y d e z Q s rx ry e1 q
  obtain ⟨i, j, rfl, rfl, e2⟩ := int2_some e1
  cases rx
  cases ry
  by_cases h : 0 < j ∧ j < 1073741824
  · rw [if_pos h] at e2
    cases e2
    exact ⟨i, j, rfl, rfl, h, q.now s (.int _)⟩
  · rw [if_neg h] at e2
    cases e2) ha hb
def negD : PyData → Option PyData
  | .int i => some (.int (-i))
  | _ => none
theorem pd_neg (ha : PDE X m a ta fa) : PDE X m (.UnaryOp .USub a pos) (tUn (rU fun i => .int (-i)) ta) (f1 negD fa) := by
  refine ⟨pe_un un_neg ha.p, fun H0 G0 σ ρ H G Q d o e q => ?_⟩
  obtain ⟨x, e1, e2⟩ := f1_some e
  refine ha.r H0 G0 σ ρ H G _ x o e1 fun v H1 G1 g1 r1 => ?_
  cases x with
  | int k =>
    cases r1
    have : PyData.int (-k) = d := Option.some.inj e2
    subst this
    exact ⟨k, rfl, q _ H1 G1 g1 (.int _)⟩
  | none => cases e2
  | bool _ => cases e2
  | str _ => cases e2
  | list _ => cases e2
  | tuple _ => cases e2
  | dict _ => cases e2
/-! ### a tuple once -/
theorem tup_once (l : Addr) (items : Array Value) (n : Nat) (dd : Option Addr) (sl : Array (Option Value)) (u : Tok) :
    Meets (Builtin.«tuple.__mul__» ⟨[.ref l, .int 1 u], []⟩) (fun _ R s => s.heap.get? l = some ⟨.type "tuple", dd, .seq items n, sl⟩ ∧ R (.ok (.ret (.ref l))) s) := by
  refine .of_wp fun prog w A R s h => ?_
  obtain ⟨hp, g, d, tk, os⟩ := s
  obtain ⟨hl, h⟩ := h
  have z1 := AutoSeq1.idx_int
  have c1 : (items.isEmpty || (1 : Int) == 1) = true := by simp
  wp_walk using AutoSeq1.wpAny_loadPart' hl
  repeat (first
    | (refine wpAny_ite_false (by decide) ?_; wp_walk using AutoSeq1.wpAny_loadPart' hl)
    | (refine wpAny_ite_true c1 ?_; wp_walk using AutoSeq1.wpAny_loadPart' hl))
  all_goals exact ⟨_, rfl, h⟩
def rOnceT (K : PySem.W.Frag) : R2 := fun x y H Q => ∃ l xs, x = .ref l ∧ y = .int 1 ∧ SqT K H l xs ∧ Q (.ref l) H
theorem op_onceT : OpR X (binaryOp .Mult) (rOnceT X.K) := by
  intro pins s σ H x y v u Q I rx ry h
  obtain ⟨l, xs, rfl, rfl, hT, q⟩ := h
  cases rx
  obtain ⟨t, rfl⟩ := ry
  obtain ⟨its, r, ⟨⟨cls, dd, data, sl⟩, ho, hc, n, hd⟩, hs⟩ := I.tuple hT
  simp only at hc hd
  subst hc hd
  exact wpAny_binaryOp_repeat_ref (T := "tuple") (U := "int") (by decide) ⟨_, ho, rfl⟩ (fun s' => typeIs_int s' 1 t) noFill_tuple_mul F.fills_int_mul F.slot_int_rmul repeat_tuple F.slot_int_index.lookup
    (call_meets F.slot_int_rmul (typeIs_int s 1 t) F.entry_int_rmul (F.args_int_rmul_2 _ _) (int_rmul_tuple 1 t l its.toArray n dd sl)
      ⟨ho, rfl, ⟨_, ho, rfl⟩, call_meets F.slot_tuple_mul ⟨_, ho, rfl⟩ F.entry_tuple_mul (F.args_tuple_mul_2 _ _) (tup_once l its.toArray n dd sl t) ⟨ho, ⟨.ref l, H, I, rfl, q⟩⟩⟩)
/-! * : ints; a tuple, a list, that many times -/
def mulD : PyData → PyData → Option PyData
  | .int i, .int j => if (-(2 ^ 64) < i ∧ i < 2 ^ 64) ∨ (-(2 ^ 64) < j ∧ j < 2 ^ 64) then some (.int (i * j)) else none
  | .tuple xs, .int j => if j = 1 then some (.tuple xs) else if xs ≠ [] ∧ 2 ≤ j ∧ j ≤ 1000 ∧ xs.length ≤ 1000 then some (.tuple (List.replicate j.toNat xs).flatten) else none
  | .list xs, .int j => if -(2 ^ 63) ≤ j ∧ j < 2 ^ 63 ∧ xs.length * j.toNat ≤ sizeLine then some (.list (List.replicate j.toNat xs).flatten) else none
  | _, _ => none
def rMulA (K : PySem.W.Frag) : R2 := fun x y H Q => rI CMul (fun i j => .int (i * j)) x y H Q ∨ rOnceT K x y H Q ∨ rRepT K x y H Q ∨ rRep x y H Q
theorem op_mulA : OpR X (binaryOp .Mult) (rMulA X.K) := op_mul.or (op_onceT.or (op_repT.or op_rep))
theorem mul_ok {K : PySem.W.Frag} : R2ok K (rMulA K) mulD := by
  intro H G x y d e z Q s rx ry e1 q
  unfold mulD at e1
  split at e1
  · cases rx
    cases ry
    split at e1
    · rename_i h
      cases e1
      exact .inl ⟨_, _, rfl, rfl, h, q.now s (.int _)⟩
    · cases e1
  · cases ry
    cases rx with
    | tup hs ha =>
      split at e1
      · rename_i h
        subst h
        cases e1
        exact .inr (.inl ⟨_, _, rfl, rfl, sqt_mono s hs, q.now s (.tup hs ha)⟩)
      · split at e1
        · rename_i h
          cases e1
          have hl := ha.length
          refine .inr (.inr (.inl ⟨_, _, _, rfl, rfl, sqt_mono s hs, ?_, h.2.1, h.2.2.1, by omega, fun p hp => q.tup s (ha.rep _) hp⟩))
          intro z
          subst z
          cases ha
          exact h.1 rfl
        · cases e1
  · cases ry
    cases rx with
    | lst hs ha =>
      split at e1
      · rename_i h
        cases e1
        have hl := ha.length
        refine .inr (.inr (.inr ⟨_, _, _, rfl, rfl, s _ _ hs, h.1, h.2.1, by rw [hl]; exact h.2.2, fun p hp => q.lst s (ha.rep _) hp⟩))
      · cases e1
  · cases e1
theorem pd_mul (ha : PDE X m a ta fa) (hb : PDE X m b tb fb) : PDE X m (.BinOp a .Mult b pos) (tOp (rMulA X.K) ta tb) (f2 mulD fa fb) := pd_op op_mulA mul_ok ha hb

/-! ### + : ints, texts, lists, tuples -/
def addD : PyData → PyData → Option PyData
  | .int i, .int j => some (.int (i + j))
  | .str x, .str y => if x.length + y.length ≤ sizeLine then some (.str (x ++ y)) else none
  | .list xs, .list ys => if xs.length + ys.length ≤ sizeLine then some (.list (xs ++ ys)) else none
  | .tuple xs, .tuple ys => if xs.length + ys.length ≤ sizeLine then some (.tuple (xs ++ ys)) else none
  | _, _ => none
def rAddA (K : PySem.W.Frag) : R2 := fun x y H Q => rI0 (fun i j => .int (i + j)) x y H Q ∨ (∃ i j, x = .str i ∧ y = .str j ∧ i.length + j.length ≤ sizeLine ∧ Q (.str (i ++ j)) H) ∨ rCat x y H Q ∨ rCatA K x y H Q
theorem op_addA : OpR X (binaryOp .Add) (rAddA X.K) := op_add.or (op_add_str.or (op_cat.or op_catA))
theorem add_ok {K : PySem.W.Frag} : R2ok K (rAddA K) addD := by
  intro H G x y d e z Q s rx ry e1 q
  unfold addD at e1
  split at e1
  · cases rx
    cases ry
    cases e1
    exact .inl ⟨_, _, rfl, rfl, q.now s (.int _)⟩
  · cases rx
    cases ry
    split at e1
    · rename_i h
      cases e1
      exact .inr (.inl ⟨_, _, rfl, rfl, h, q.now s (.str _)⟩)
    · cases e1
  · split at e1
    · rename_i h
      cases e1
      cases rx with
      | lst hs ha =>
        cases ry with
        | lst hs' ha' =>
          have hl := ha.length
          have hl' := ha'.length
          exact .inr (.inr (.inl ⟨_, _, _, _, rfl, rfl, s _ _ hs, s _ _ hs', by omega, fun p hp => q.lst s (ha.append ha') hp⟩))
    · cases e1
  · split at e1
    · rename_i h
      cases e1
      cases rx with
      | tup hs ha =>
        cases ry with
        | tup hs' ha' =>
          have hl := ha.length
          have hl' := ha'.length
          refine .inr (.inr (.inr ⟨_, _, _, _, rfl, rfl, sqt_mono s hs, sqt_mono s hs', by omega, fun z => ?_, fun _ z => ?_, fun _ _ p hp => q.tup s (ha.append ha') hp⟩))
          · subst z
            cases ha
            exact q.now s (.tup hs' ha')
          · subst z
            cases ha'
            refine q.now s ?_
            rw [List.append_nil]
            exact .tup hs ha
    · cases e1
  · cases e1
theorem pd_add (ha : PDE X m a ta fa) (hb : PDE X m b tb fb) : PDE X m (.BinOp a .Add b pos) (tOp (rAddA X.K) ta tb) (f2 addD fa fb) := pd_op op_addA add_ok ha hb

/-! ### in, not in -/
def flD : PyData → Bool
  | .none => true
  | .bool _ => true
  | .int _ => true
  | .str _ => true
  | _ => false
theorem flD_ok {K : PySem.W.Frag} {G : Hp} {x : V} {d : PyData} (h : flD d = true) (r : Rp K G x d) : flatV x = true := by
  cases d <;> simp [flD] at h <;> cases r <;> rfl
theorem eqV_ok {K : PySem.W.Frag} {G : Hp} {x y : V} {d e : PyData} (h : flD d = true) (h' : flD e = true) (rx : Rp K G x d) (ry : Rp K G y e) : eqV x y = PyData.eqv d e := by
  cases d <;> cases e <;> simp [flD] at h h' <;> cases rx <;> cases ry <;> simp [eqV, PyData.eqv]
theorem flAll_ok {K : PySem.W.Frag} {G : Hp} : ∀ {xs : List V} {ds : List PyData}, ds.all flD = true → RpAll K G xs ds → xs.all flatV = true
  | _, [], _, h => by cases h; rfl
  | _, d :: ds, f, h => by
    cases h with
    | cons a b =>
      rw [List.all_cons, Bool.and_eq_true] at f
      rw [List.all_cons, flD_ok f.1 a, flAll_ok f.2 b]
      rfl
theorem inV_ok {K : PySem.W.Frag} {G : Hp} {x : V} {d : PyData} (hd : flD d = true) (rx : Rp K G x d) : ∀ {xs : List V} {ds : List PyData}, ds.all flD = true → RpAll K G xs ds → inV x xs = ds.any fun z => PyData.eqv z d
  | _, [], _, h => by cases h; rfl
  | _, e :: ds, f, h => by
    cases h with
    | cons a b =>
      rw [List.all_cons, Bool.and_eq_true] at f
      have ih := inV_ok hd rx f.2 b
      unfold inV at ih ⊢
      rw [List.any_cons, List.any_cons, eqV_ok f.1 hd a rx, ih]
def rInTD (K : PySem.W.Frag) : R2 := fun x y H Q => ∃ d ds, Dp K H x d ∧ Dp K H y (.tuple ds) ∧ SeqAt.shaped d = true ∧ SeqAt.shaped (.tuple ds) = true ∧ Q (.bl (ds.any fun z => PyData.eqv z d)) H
def rNotInTD (K : PySem.W.Frag) : R2 := fun x y H Q => ∃ d ds, Dp K H x d ∧ Dp K H y (.tuple ds) ∧ SeqAt.shaped d = true ∧ SeqAt.shaped (.tuple ds) = true ∧ Q (.bl (!ds.any fun z => PyData.eqv z d)) H
theorem op_inTD (hu : X.A.units + 65 < cLine) : OpR X (compareOp .In) (rInTD X.K) := by
  intro pins s σ H x y v u Q I rx ry h
  obtain ⟨d, ds, hd, he, sd, se, q⟩ := h
  obtain ⟨as, r1⟩ := Dp.reads I d x v hd rx
  obtain ⟨bs, r2⟩ := Dp.reads I (.tuple ds) y u he ry
  exact SeqAt.in_tuple_reads r2 r1 (SeqAt.canLay_of_shaped se) (SeqAt.canLay_of_shaped sd) (room_in_shaped sd hu) ⟨.bl _, H, I, rfl, q⟩
theorem op_notInTD (hu : X.A.units + 65 < cLine) : OpR X (compareOp .NotIn) (rNotInTD X.K) := by
  intro pins s σ H x y v u Q I rx ry h
  obtain ⟨d, ds, hd, he, sd, se, q⟩ := h
  obtain ⟨as, r1⟩ := Dp.reads I d x v hd rx
  obtain ⟨bs, r2⟩ := Dp.reads I (.tuple ds) y u he ry
  exact SeqAt.notIn_tuple_reads r2 r1 (SeqAt.canLay_of_shaped se) (SeqAt.canLay_of_shaped sd) (room_in_shaped sd hu) ⟨.bl _, H, I, rfl, q⟩
def inD (d c : PyData) : Option Bool := match c with
  | .list ys => if ((flD d && ys.all flD) || (SeqAt.shaped d && SeqAt.shaped c)) = true then some (ys.any fun z => PyData.eqv z d) else none
  | .tuple ys => if ((flD d && ys.all flD) || (SeqAt.shaped d && SeqAt.shaped c)) = true then some (ys.any fun z => PyData.eqv z d) else none
  | .str z => match d with
    | .str y => if y.cps.size = 1 then some (decide (y.cps.getD 0 0 ∈ z.cps.toList)) else none
    | _ => none
  | _ => none
def inP (d c : PyData) : Option PyData := (inD d c).map .bool
def niP (d c : PyData) : Option PyData := (inD d c).map fun b => .bool (!b)
def rInA (K : PySem.W.Frag) : R2 := fun x y H Q => rIn K false x y H Q ∨ rInD K x y H Q ∨ rInTD K x y H Q ∨ ∃ (c : Nat) (z : Str), x = .str ⟨#[c]⟩ ∧ y = .str z ∧ Q (.bl (decide (c ∈ z.cps.toList))) H
def rNiA (K : PySem.W.Frag) : R2 := fun x y H Q => rIn K true x y H Q ∨ rNotInD K x y H Q ∨ rNotInTD K x y H Q ∨ ∃ (c : Nat) (z : Str), x = .str ⟨#[c]⟩ ∧ y = .str z ∧ Q (.bl (!decide (c ∈ z.cps.toList))) H
theorem op_inA (hu : X.A.units + 65 < cLine) : OpR X (compareOp .In) (rInA X.K) := op_in_seq.or ((op_inD hu).or ((op_inTD hu).or op_in_sign))
theorem op_niA (hu : X.A.units + 65 < cLine) : OpR X (compareOp .NotIn) (rNiA X.K) := op_notIn_seq.or ((op_notInD hu).or ((op_notInTD hu).or op_notIn_sign))
theorem one_sign {y : Str} (h : y.cps.size = 1) : y = ⟨#[y.cps.getD 0 0]⟩ := by
  obtain ⟨⟨l⟩⟩ := y
  have h' : l.length = 1 := h
  match l, h' with
  | [c], _ => rfl
theorem in_ok {K : PySem.W.Frag} : R2ok K (rInA K) inP := by
  intro H G x y d e z Q s rx ry e1 q
  unfold inP inD at e1
  cases e with
  | list ys =>
    simp only at e1
    by_cases h : ((flD d && ys.all flD) || (SeqAt.shaped d && SeqAt.shaped (.list ys))) = true
    · rw [if_pos h] at e1
      cases e1
      cases ry with
      | lst hs ha =>
        by_cases h1 : (flD d && ys.all flD) = true
        · rw [Bool.and_eq_true] at h1
          refine .inl ⟨_, _, rfl, .inl (SqL.of (s _ _ hs)), flD_ok h1.1 rx, flAll_ok h1.2 ha, ?_⟩
          show Q (.bl (inV _ _)) H
          rw [inV_ok h1.1 rx h1.2 ha]
          exact q.now s (.bl _)
        · have h2 : SeqAt.shaped d = true ∧ SeqAt.shaped (.list ys) = true := by simpa [h1] using h
          have ry' : Rp K G (.ref _) (.list ys) := .lst hs ha
          exact .inr (.inl ⟨d, ys, (rx.mono s).dp h2.1, (ry'.mono s).dp h2.2, h2.1, h2.2, q.now s (.bl _)⟩)
    · rw [if_neg h] at e1
      cases e1
  | tuple ys =>
    simp only at e1
    by_cases h : ((flD d && ys.all flD) || (SeqAt.shaped d && SeqAt.shaped (.tuple ys))) = true
    · rw [if_pos h] at e1
      cases e1
      cases ry with
      | tup hs ha =>
        by_cases h1 : (flD d && ys.all flD) = true
        · rw [Bool.and_eq_true] at h1
          refine .inl ⟨_, _, rfl, .inr (sqt_mono s hs), flD_ok h1.1 rx, flAll_ok h1.2 ha, ?_⟩
          show Q (.bl (inV _ _)) H
          rw [inV_ok h1.1 rx h1.2 ha]
          exact q.now s (.bl _)
        · have h2 : SeqAt.shaped d = true ∧ SeqAt.shaped (.tuple ys) = true := by simpa [h1] using h
          have ry' : Rp K G (.ref _) (.tuple ys) := .tup hs ha
          exact .inr (.inr (.inl ⟨d, ys, (rx.mono s).dp h2.1, (ry'.mono s).dp h2.2, h2.1, h2.2, q.now s (.bl _)⟩))
    · rw [if_neg h] at e1
      cases e1
  | str w =>
    cases d with
    | str y =>
      simp only at e1
      by_cases h : y.cps.size = 1
      · rw [if_pos h] at e1
        cases e1
        cases rx
        cases ry
        exact .inr (.inr (.inr ⟨y.cps.getD 0 0, w, by rw [← one_sign h], rfl, q.now s (.bl _)⟩))
      · rw [if_neg h] at e1
        cases e1
    | none => cases e1
    | bool _ => cases e1
    | int _ => cases e1
    | list _ => cases e1
    | tuple _ => cases e1
    | dict _ => cases e1
  | none => cases e1
  | bool _ => cases e1
  | int _ => cases e1
  | dict _ => cases e1
theorem ni_ok {K : PySem.W.Frag} : R2ok K (rNiA K) niP := by
  intro H G x y d e z Q s rx ry e1 q
  unfold niP inD at e1
  cases e with
  | list ys =>
    simp only at e1
    by_cases h : ((flD d && ys.all flD) || (SeqAt.shaped d && SeqAt.shaped (.list ys))) = true
    · rw [if_pos h] at e1
      cases e1
      cases ry with
      | lst hs ha =>
        by_cases h1 : (flD d && ys.all flD) = true
        · rw [Bool.and_eq_true] at h1
          refine .inl ⟨_, _, rfl, .inl (SqL.of (s _ _ hs)), flD_ok h1.1 rx, flAll_ok h1.2 ha, ?_⟩
          show Q (.bl (!inV _ _)) H
          rw [inV_ok h1.1 rx h1.2 ha]
          exact q.now s (.bl _)
        · have h2 : SeqAt.shaped d = true ∧ SeqAt.shaped (.list ys) = true := by simpa [h1] using h
          have ry' : Rp K G (.ref _) (.list ys) := .lst hs ha
          exact .inr (.inl ⟨d, ys, (rx.mono s).dp h2.1, (ry'.mono s).dp h2.2, h2.1, h2.2, q.now s (.bl _)⟩)
    · rw [if_neg h] at e1
      cases e1
  | tuple ys =>
    simp only at e1
    by_cases h : ((flD d && ys.all flD) || (SeqAt.shaped d && SeqAt.shaped (.tuple ys))) = true
    · rw [if_pos h] at e1
      cases e1
      cases ry with
      | tup hs ha =>
        by_cases h1 : (flD d && ys.all flD) = true
        · rw [Bool.and_eq_true] at h1
          refine .inl ⟨_, _, rfl, .inr (sqt_mono s hs), flD_ok h1.1 rx, flAll_ok h1.2 ha, ?_⟩
          show Q (.bl (!inV _ _)) H
          rw [inV_ok h1.1 rx h1.2 ha]
          exact q.now s (.bl _)
        · have h2 : SeqAt.shaped d = true ∧ SeqAt.shaped (.tuple ys) = true := by simpa [h1] using h
          have ry' : Rp K G (.ref _) (.tuple ys) := .tup hs ha
          exact .inr (.inr (.inl ⟨d, ys, (rx.mono s).dp h2.1, (ry'.mono s).dp h2.2, h2.1, h2.2, q.now s (.bl _)⟩))
    · rw [if_neg h] at e1
      cases e1
  | str w =>
    cases d with
    | str y =>
      simp only at e1
      by_cases h : y.cps.size = 1
      · rw [if_pos h] at e1
        cases e1
        cases rx
        cases ry
        exact .inr (.inr (.inr ⟨y.cps.getD 0 0, w, by rw [← one_sign h], rfl, q.now s (.bl _)⟩))
      · rw [if_neg h] at e1
        cases e1
    | none => cases e1
    | bool _ => cases e1
    | int _ => cases e1
    | list _ => cases e1
    | tuple _ => cases e1
    | dict _ => cases e1
  | none => cases e1
  | bool _ => cases e1
  | int _ => cases e1
  | dict _ => cases e1
theorem pd_in (hu : X.A.units + 65 < cLine) (ha : PDE X m a ta fa) (hb : PDE X m b tb fb) (hm : behindInMarks .In b = false := by rfl) : PDE X m (.Compare a [.In] [b] pos) (tOp (rInA X.K) ta tb) (f2 inP fa fb) := pd_cmp (op_inA hu) in_ok hm ha hb
theorem pd_ni (hu : X.A.units + 65 < cLine) (ha : PDE X m a ta fa) (hb : PDE X m b tb fb) (hm : behindInMarks .NotIn b = false := by rfl) : PDE X m (.Compare a [.NotIn] [b] pos) (tOp (rNiA X.K) ta tb) (f2 niP fa fb) := pd_cmp (op_niA hu) ni_ok hm ha hb
theorem pdt_in (hu : X.A.units + 65 < cLine) (ha : PDE X m a ta fa) (hb : PDE X m b tb fb) (hm : behindInMarks .In b = false := by rfl) : PDT X m (.Compare a [.In] [b] pos) (tTest (tOp (rInA X.K) ta tb)) (fB (f2 inP fa fb)) := pdt_cmp (op_inA hu) in_ok hm ha hb
theorem pdt_ni (hu : X.A.units + 65 < cLine) (ha : PDE X m a ta fa) (hb : PDE X m b tb fb) (hm : behindInMarks .NotIn b = false := by rfl) : PDT X m (.Compare a [.NotIn] [b] pos) (tTest (tOp (rNiA X.K) ta tb)) (fB (f2 niP fa fb)) := pdt_cmp (op_niA hu) ni_ok hm ha hb

/-! ### is -/
def isNone : PyData → Bool
  | .none => true
  | _ => false
theorem isN_ok {K : PySem.W.Frag} {G : Hp} {x : V} {d : PyData} (r : Rp K G x d) : decide (x = .non) = isNone d := by
  cases r <;> simp [isNone]
theorem pd_isN {j pos'} (ha : PDE X m a ta fa) : PDE X m (.Compare a [.Is] [.Constant .none j pos'] pos) (tIsN ta) (f1 (fun d => some (.bool (isNone d))) fa) := by
  refine ⟨pe_cmp (pc_isN ha.p) rfl, fun H0 G0 σ ρ H G Q d o e q => ?_⟩
  obtain ⟨x, e1, e2⟩ := f1_some e
  cases e2
  refine ha.r H0 G0 σ ρ H G _ x o e1 fun v H1 G1 g1 r1 => ?_
  show Q _ H1
  rw [isN_ok r1]
  exact q _ H1 G1 g1 (.bl _)
theorem pd_notN {j pos'} (ha : PDE X m a ta fa) : PDE X m (.Compare a [.IsNot] [.Constant .none j pos'] pos) (tNotN ta) (f1 (fun d => some (.bool (!isNone d))) fa) := by
  refine ⟨pe_cmp (pc_notN ha.p) rfl, fun H0 G0 σ ρ H G Q d o e q => ?_⟩
  obtain ⟨x, e1, e2⟩ := f1_some e
  cases e2
  refine ha.r H0 G0 σ ρ H G _ x o e1 fun v H1 G1 g1 r1 => ?_
  show Q _ H1
  rw [isN_ok r1]
  exact q _ H1 G1 g1 (.bl _)
theorem pdt_isN {j pos'} (ha : PDE X m a ta fa) : PDT X m (.Compare a [.Is] [.Constant .none j pos'] pos) (tB (tIsN ta)) (fB (f1 (fun d => some (.bool (isNone d))) fa)) := ⟨pt_cmp (pc_isN ha.p) rfl, rt_b (pd_isN (pos := pos) (j := j) (pos' := pos') ha).r⟩
theorem pdt_notN {j pos'} (ha : PDE X m a ta fa) : PDT X m (.Compare a [.IsNot] [.Constant .none j pos'] pos) (tB (tNotN ta)) (fB (f1 (fun d => some (.bool (!isNone d))) fa)) := ⟨pt_cmp (pc_notN ha.p) rfl, rt_b (pd_notN (pos := pos) (j := j) (pos' := pos') ha).r⟩
/-- is True, is False: of truths -/
def isBD : PyData → PyData → Option PyData
  | .bool x, .bool y => some (.bool (decide (x = y)))
  | _, _ => none
def niBD : PyData → PyData → Option PyData
  | .bool x, .bool y => some (.bool (!decide (x = y)))
  | _, _ => none
theorem isB_ok {K : PySem.W.Frag} : R2ok K rIsB isBD := by
  intro H G x y d e z Q s rx ry e1 q
  cases d <;> cases e <;> simp [isBD] at e1
  cases rx
  cases ry
  subst e1
  exact ⟨_, _, rfl, rfl, q.now s (.bl _)⟩
theorem niB_ok {K : PySem.W.Frag} : R2ok K rNotB niBD := by
  intro H G x y d e z Q s rx ry e1 q
  cases d <;> cases e <;> simp [niBD] at e1
  cases rx
  cases ry
  subst e1
  exact ⟨_, _, rfl, rfl, q.now s (.bl _)⟩
theorem pd_isB (ha : PDE X m a ta fa) (hb : PDE X m b tb fb) : PDE X m (.Compare a [.Is] [b] pos) (tOp rIsB ta tb) (f2 isBD fa fb) := pd_cmp op_isBl isB_ok (nomark _) ha hb
theorem pd_niB (ha : PDE X m a ta fa) (hb : PDE X m b tb fb) : PDE X m (.Compare a [.IsNot] [b] pos) (tOp rNotB ta tb) (f2 niBD fa fb) := pd_cmp op_notBl niB_ok (nomark _) ha hb
theorem pdt_isB (ha : PDE X m a ta fa) (hb : PDE X m b tb fb) : PDT X m (.Compare a [.Is] [b] pos) (tTest (tOp rIsB ta tb)) (fB (f2 isBD fa fb)) := pdt_cmp op_isBl isB_ok (nomark _) ha hb
theorem pdt_niB (ha : PDE X m a ta fa) (hb : PDE X m b tb fb) : PDT X m (.Compare a [.IsNot] [b] pos) (tTest (tOp rNotB ta tb)) (fB (f2 niBD fa fb)) := pdt_cmp op_notBl niB_ok (nomark _) ha hb

/-! ### subscripts, slices -/
def ixD : PyData → PyData → Option PyData
  | .list xs, .int i => atI xs i
  | .tuple xs, .int i => atI xs i
  | .str z, .int i => if z.length ≤ sizeLine then (atI z.cps.toList i).map fun c => .str ⟨#[c]⟩ else none
  | .dict [(.none, .list xs)], .int i => atI xs i
  | _, _ => none
theorem atI_rp {K : PySem.W.Frag} {G : Hp} {vs : List V} {ds : List PyData} {i : Int} {d : PyData} (h : RpAll K G vs ds) (e : atI ds i = some d) : ∃ v, atI vs i = some v ∧ Rp K G v d := by
  unfold atI at e ⊢
  rw [h.length]
  cases q : ixN ds.length i with
  | none => rw [q] at e; cases e
  | some j =>
    rw [q] at e
    exact h.get e
theorem ix_ok {K : PySem.W.Frag} : R2ok K (rIx K) ixD := by
  intro H G x y d e z Q s rx ry e1 q
  unfold ixD at e1
  split at e1
  · cases ry
    cases rx with
    | lst hs ha =>
      obtain ⟨v, h1, h2⟩ := atI_rp ha e1
      exact .inl ⟨_, _, _, v, rfl, rfl, SqL.of (s _ _ hs), h1, q.now s h2⟩
  · cases ry
    cases rx with
    | tup hs ha =>
      obtain ⟨v, h1, h2⟩ := atI_rp ha e1
      exact .inr (.inl ⟨_, _, _, v, rfl, rfl, sqt_mono s hs, h1, q.now s h2⟩)
  · cases ry
    cases rx
    split at e1
    · rename_i z0 i h
      cases h1 : atI z0.cps.toList i with
      | none => rw [h1] at e1; cases e1
      | some c =>
        rw [h1] at e1
        cases e1
        exact .inr (.inr ⟨_, _, c, rfl, rfl, h, h1, q.now s (.str _)⟩)
    · cases e1
  · cases ry
    cases rx with
    | scr hs =>
      obtain ⟨v, h1, h2⟩ := atI_rp (K := K) (G := G) (RpAll.of_ints _) e1
      exact .inl ⟨_, _, _, v, rfl, rfl, s.seq hs, h1, q.now s h2⟩
    | dct hs ha => exact (no_none ha).elim
  · cases e1
theorem pd_ix (ha : PDE X m a ta fa) (hb : PDE X m b tb fb) (hs : PlainIx b := by intro _ _; rfl) : PDE X m (.Subscript a b pos) (tOp (rIx X.K) ta tb) (f2 ixD fa fb) := ⟨pe_ix ix_seq ha.p hb.p hs, re_op ix_ok ha.r hb.r⟩
def cutL {α : Type} (xs : List α) (lo hi : Option Int) : List α := (xs.drop (HT.sIx xs.length 0 lo)).take (HT.sIx xs.length xs.length hi - HT.sIx xs.length 0 lo)
def slD (d : PyData) (lo hi : Option Int) : Option PyData := match d with
  | .list xs => some (.list (cutL xs lo hi))
  | .tuple xs => some (.tuple (cutL xs lo hi))
  | .str z => if z.length ≤ sizeLine then some (.str (cutS z lo hi)) else none
  | _ => none
/-- an optional part of a slice -/
def RO (K : PySem.W.Frag) (m : Mk) (t : TO) (f : En → Option (Option Int)) : Prop :=
  ∀ H0 G0 σ ρ H G (Q : Option Int → Hp → Prop) d, Ok K H0 G0 m σ ρ H G → f ρ = some d → (∀ H' G', Gr H G H' G' → Q d H') → t σ H Q
structure PDO (X : Cx) (m : Mk) (e : Option Expr) (t : TO) (f : En → Option (Option Int)) : Prop where
  p : PO X e t
  r : RO X.K m t f
def fO0 : En → Option (Option Int) := fun _ => some none
def asI : PyData → Option (Option Int)
  | .int i => some (some i)
  | _ => none
def fO (fa : En → Option PyData) : En → Option (Option Int) := fun ρ => (fa ρ).bind asI
theorem pd_o0 : PDO X m none tNoPart fO0 := ⟨po_none, fun H0 G0 σ ρ H G Q d o e q => by
  cases e
  exact q H G (.of o)⟩
theorem pd_o (h : PDE X m e te fe) : PDO X m (some e) (tPart te) (fO fe) := by
  refine ⟨po_some h.p, fun H0 G0 σ ρ H G Q d o e q => ?_⟩
  unfold fO at e
  cases e1 : fe ρ with
  | none => rw [e1] at e; cases e
  | some x =>
    rw [e1] at e
    refine h.r H0 G0 σ ρ H G _ x o e1 fun v H1 G1 g1 r1 => ?_
    cases x with
    | int i =>
      cases r1
      have : some i = d := Option.some.inj e
      subst this
      exact ⟨i, rfl, q H1 G1 g1⟩
    | none => cases e
    | bool _ => cases e
    | str _ => cases e
    | list _ => cases e
    | tuple _ => cases e
    | dict _ => cases e
def fSl (fa : En → Option PyData) (fl fh : En → Option (Option Int)) : En → Option PyData := fun ρ => (fa ρ).bind fun x => (fl ρ).bind fun l => (fh ρ).bind fun h => slD x l h
def rSlAny (K : PySem.W.Frag) : V → Option Int → Option Int → Hp → VK → Prop := fun x lo hi H Q => rSlL K x lo hi H Q ∨ rSlA K x lo hi H Q ∨ rSlS x lo hi H Q
theorem cut_rp {K : PySem.W.Frag} {G : Hp} {vs : List V} {ds : List PyData} (h : RpAll K G vs ds) (lo hi : Option Int) : RpAll K G (cutV vs lo hi) (cutL ds lo hi) := by
  unfold cutV cutL
  rw [h.length]
  exact (h.drop _).take _
theorem cut_all {α : Type} {xs : List α} {lo hi : Option Int} (h : HT.sIx xs.length 0 lo = 0 ∧ HT.sIx xs.length xs.length hi = xs.length) : cutL xs lo hi = xs := by
  unfold cutL
  rw [h.1, h.2]
  simp
variable {lo hi : Option Expr} {tl th : TO} {fl fh : En → Option (Option Int)} {p2 : Pos}
theorem pd_sl (ha : PDE X m a ta fa) (hl : PDO X m lo tl fl) (hh : PDO X m hi th fh) : PDE X m (.Subscript a (.Slice lo hi none p2) pos) (tSl (rSlAny X.K) ta tl th) (fSl fa fl fh) := by
  refine ⟨pe_slice (sl_list.or (sl_tupA.or sl_str)) ha.p hl.p hh.p, fun H0 G0 σ ρ H G Q d o e q => ?_⟩
  unfold fSl at e
  cases e1 : fa ρ with
  | none => rw [e1] at e; cases e
  | some x =>
    rw [e1] at e
    cases e2 : fl ρ with
    | none => rw [e2] at e; cases e
    | some l =>
      rw [e2] at e
      cases e3 : fh ρ with
      | none => rw [e3] at e; cases e
      | some h =>
        rw [e3] at e
        have e4 : slD x l h = some d := e
        refine ha.r H0 G0 σ ρ H G _ x o e1 fun v H1 G1 g1 r1 => ?_
        refine hl.r H0 G0 σ ρ H1 G1 _ l (o.grow g1) e2 fun H2 G2 g2 => ?_
        refine hh.r H0 G0 σ ρ H2 G2 _ h ((o.grow g1).grow g2) e3 fun H3 G3 g3 => ?_
        have q' : Wnt X.K H3 G3 d Q := ((q.grow g1).grow g2).grow g3
        have r3 := (r1.mono g2.gg).mono g3.gg
        cases x with
        | list xs =>
          cases e4
          cases r3 with
          | lst hs ha => exact .inl ⟨_, _, rfl, SqL.of (g3.gh _ _ hs), fun p hp => q'.lst g3.gh (cut_rp ha l h) hp⟩
        | tuple xs =>
          cases e4
          cases r3 with
          | tup hs ha =>
            refine .inr (.inl ⟨_, _, rfl, sqt_mono g3.gh hs, fun z => ?_, fun _ p hp => q'.tup g3.gh (cut_rp ha l h) hp⟩)
            have hl := ha.length
            rw [hl] at z
            refine q'.now g3.gh ?_
            rw [cut_all z]
            exact .tup hs ha
        | str z =>
          unfold slD at e4
          simp only at e4
          split at e4
          · rename_i hz
            cases e4
            cases r3
            exact .inr (.inr ⟨z, rfl, hz, q'.now g3.gh (.str _)⟩)
          · cases e4
        | none => cases e4
        | bool _ => cases e4
        | int _ => cases e4
        | dict _ => cases e4

/-! ### built-in calls -/
theorem re_cb {K : PySem.W.Frag} {r : List V → Hp → VK → Prop} {g : List PyData → Option PyData} {t : TA} {f : En → Option (List PyData)} (hr : RLok K r g) (ha : RA K m t f) : RE K m (tCB r t) (fL g f) := by
  intro H0 G0 σ ρ H G Q d o e q
  obtain ⟨ds, e1, e2⟩ := fL_some e
  exact ha H0 G0 σ ρ H G _ ds o e1 fun vs H1 G1 g1 r1 => hr H1 G1 vs ds d Q g1.gh r1 e2 (q.grow g1)
variable {es : List Expr} {t : TA} {f : En → Option (List PyData)} {p : Pos}
theorem pd_callB {id : String} {x : Str} {r : List V → Hp → VK → Prop} {g : List PyData → Option PyData} (hc : CallR X (.builtin id) r) (hr : RLok X.K r g) (hg : Gl X x) (hm : X.mg x = none) (hv : bootBuiltins x = some (.builtin id)) (ha : PDA X m (e :: es) t f)
    (hn : x ≠ "__name__" := by decide) (hdb : (x == ("__debug__" : Str)) = false := by decide)
    (he : starEach (e :: es) X.env = (false, eval e X.env) :: starEach es X.env := by rfl) (hpl : (backTo pos (starEach es X.env)).any (·.1) = false := by rfl) : PDE X m (.Call (.Name x p) (e :: es) [] pos) (tCB r t) (fL g f) :=
  ⟨pe_callB hc hg hm hv ha.p hn hdb he hpl, re_cb hr ha.r⟩
theorem pd_callTy {id : String} {x : Str} {r : List V → Hp → VK → Prop} {g : List PyData → Option PyData} (hc : CallR X (.type id) r) (hr : RLok X.K r g) (hg : Gl X x) (hm : X.mg x = none) (hv : bootBuiltins x = some (.type id)) (ha : PDA X m (e :: es) t f)
    (hn : x ≠ "__name__" := by decide) (hdb : (x == ("__debug__" : Str)) = false := by decide)
    (he : starEach (e :: es) X.env = (false, eval e X.env) :: starEach es X.env := by rfl) (hpl : (backTo pos (starEach es X.env)).any (·.1) = false := by rfl) : PDE X m (.Call (.Name x p) (e :: es) [] pos) (tCB r t) (fL g f) :=
  ⟨pe_callTy hc hg hm hv ha.p hn hdb he hpl, re_cb hr ha.r⟩
/-- one argument -/
def on1 (g : PyData → Option PyData) : List PyData → Option PyData
  | [d] => g d
  | _ => none
def on2 (g : PyData → PyData → Option PyData) : List PyData → Option PyData
  | [d, e] => g d e
  | _ => none
theorem on1_some {g : PyData → Option PyData} {ds : List PyData} {z : PyData} (h : on1 g ds = some z) : ∃ d, ds = [d] ∧ g d = some z := by
  match ds, h with
  | [d], h => exact ⟨d, rfl, h⟩
theorem on2_some {g : PyData → PyData → Option PyData} {ds : List PyData} {z : PyData} (h : on2 g ds = some z) : ∃ d e, ds = [d, e] ∧ g d e = some z := by
  match ds, h with
  | [d, e], h => exact ⟨d, e, rfl, h⟩
/-! len -/
def lenD : PyData → Option PyData
  | .str x => if x.length ≤ sizeLine then some (.int x.length) else none
  | .list xs => some (.int xs.length)
  | .tuple xs => some (.int xs.length)
  | .dict [(.none, .list xs)] => some (.int xs.length)
  | _ => none
def rLenA (K : PySem.W.Frag) : List V → Hp → VK → Prop := fun xs H Q => ∃ x n, xs = [x] ∧ LenV K x H n ∧ Q (.int n) H
theorem len_ok {K : PySem.W.Frag} : RLok K (rLenA K) (on1 lenD) := by
  intro H G xs ds z Q s r e q
  obtain ⟨d, rfl, e1⟩ := on1_some e
  obtain ⟨v, rfl, rv⟩ := r.one
  cases d with
  | str x =>
    unfold lenD at e1
    simp only at e1
    split at e1
    · rename_i h
      cases e1
      cases rv
      exact ⟨_, _, rfl, ⟨h, rfl⟩, q.now s (.int _)⟩
    · cases e1
  | list ys =>
    cases e1
    cases rv with
    | lst hs ha =>
      refine ⟨_, _, rfl, .inl ⟨_, SqL.of (s _ _ hs), rfl⟩, ?_⟩
      rw [ha.length]
      exact q.now s (.int _)
  | tuple ys =>
    cases e1
    cases rv with
    | tup hs ha =>
      refine ⟨_, _, rfl, .inr ⟨_, sqt_mono s hs, rfl⟩, ?_⟩
      rw [ha.length]
      exact q.now s (.int _)
  | none => cases e1
  | bool _ => cases e1
  | int _ => cases e1
  | dict ks =>
    unfold lenD at e1
    split at e1
    · rename_i h; cases h
    · rename_i h; cases h
    · rename_i h; cases h
    · rename_i zs h
      cases h
      cases e1
      cases rv with
      | scr hs =>
        refine ⟨_, _, rfl, .inl ⟨_, s.seq hs, rfl⟩, ?_⟩
        rw [List.length_map, ← List.length_map (f := PyData.int)]
        exact q.now s (.int _)
      | dct hs ha => exact (no_none ha).elim
    · cases e1
theorem pd_len (hm : X.mg "len" = none) (ha : PDE X m e te fe) (hg : Gl X "len" := by rfl) (hs : starEach [e] X.env = (false, eval e X.env) :: starEach [] X.env := by rfl) : PDE X m (.Call (.Name "len" p) [e] [] pos) (tCB (rLenA X.K) (tCons te tNil)) (fL (on1 lenD) (fA fe fA0)) :=
  pd_callB call_len len_ok hg hm PySem.boot_len (pd_a ha pd_a0 hs) (he := hs)
/-! int, str -/
def intD : PyData → Option PyData
  | .int i => some (.int i)
  | .bool b => some (.int (if b then 1 else 0))
  | .str x => if x.length ≤ 640 then (PySem.intText? x).map .int else none
  | _ => none
def rIntA : List V → Hp → VK → Prop := fun xs H Q => ((∃ i, xs = [.int i] ∧ Q (.int i) H) ∨ ∃ k, xs = [.bl k] ∧ Q (.int (if k then 1 else 0)) H) ∨ ∃ a n, xs = [.str a] ∧ PySem.intText? a = some n ∧ a.length ≤ 640 ∧ Q (.int n) H
theorem int_ok {K : PySem.W.Frag} : RLok K rIntA (on1 intD) := by
  intro H G xs ds z Q s r e q
  obtain ⟨d, rfl, e1⟩ := on1_some e
  obtain ⟨v, rfl, rv⟩ := r.one
  cases d with
  | int i =>
    cases e1
    cases rv
    exact .inl (.inl ⟨i, rfl, q.now s (.int _)⟩)
  | bool b =>
    cases e1
    cases rv
    exact .inl (.inr ⟨b, rfl, q.now s (.int _)⟩)
  | str x =>
    unfold intD at e1
    simp only at e1
    split at e1
    · rename_i h
      cases h1 : PySem.intText? x with
      | none => rw [h1] at e1; cases e1
      | some n =>
        rw [h1] at e1
        cases e1
        cases rv
        exact .inr ⟨x, n, rfl, h1, h, q.now s (.int _)⟩
    · cases e1
  | none => cases e1
  | list _ => cases e1
  | tuple _ => cases e1
  | dict _ => cases e1
theorem pd_toInt (hm : X.mg "int" = none) (ha : PDE X m e te fe) (hg : Gl X "int" := by rfl) (hs : starEach [e] X.env = (false, eval e X.env) :: starEach [] X.env := by rfl) : PDE X m (.Call (.Name "int" p) [e] [] pos) (tCB rIntA (tCons te tNil)) (fL (on1 intD) (fA fe fA0)) :=
  pd_callTy (call_int1.or call_int_str) int_ok hg hm (by decide +kernel) (pd_a ha pd_a0 hs) (he := hs)
def strD : PyData → Option PyData
  | .int i => if i.natAbs.log2 < 1920 then some (.str (toString i)) else none
  | .str x => some (.str x)
  | _ => none
def rStrA : List V → Hp → VK → Prop := fun xs H Q => (∃ i, xs = [.int i] ∧ i.natAbs.log2 < 1920 ∧ Q (.str (toString i)) H) ∨ ∃ a, xs = [.str a] ∧ Q (.str a) H
theorem str_ok {K : PySem.W.Frag} : RLok K rStrA (on1 strD) := by
  intro H G xs ds z Q s r e q
  obtain ⟨d, rfl, e1⟩ := on1_some e
  obtain ⟨v, rfl, rv⟩ := r.one
  cases d with
  | int i =>
    unfold strD at e1
    simp only at e1
    split at e1
    · rename_i h
      cases e1
      cases rv
      exact .inl ⟨i, rfl, h, q.now s (.str _)⟩
    · cases e1
  | str x =>
    cases e1
    cases rv
    exact .inr ⟨x, rfl, q.now s (.str _)⟩
  | none => cases e1
  | bool _ => cases e1
  | list _ => cases e1
  | tuple _ => cases e1
  | dict _ => cases e1
theorem pd_toStr (hm : X.mg "str" = none) (ha : PDE X m e te fe) (hg : Gl X "str" := by rfl) (hs : starEach [e] X.env = (false, eval e X.env) :: starEach [] X.env := by rfl) : PDE X m (.Call (.Name "str" p) [e] [] pos) (tCB rStrA (tCons te tNil)) (fL (on1 strD) (fA fe fA0)) :=
  pd_callTy (call_str_int.or SkE.call_str_str) str_ok hg hm (by decide +kernel) (pd_a ha pd_a0 hs) (he := hs)
/-! all, sum of a list -/
def asBs : List PyData → Option (List Bool)
  | [] => some []
  | .bool b :: r => (asBs r).map (b :: ·)
  | _ => none
def asIs : List PyData → Option (List Int)
  | [] => some []
  | .int b :: r => (asIs r).map (b :: ·)
  | _ => none
def asSs : List PyData → Option (List Str)
  | [] => some []
  | .str b :: r => (asSs r).map (b :: ·)
  | _ => none
theorem asBs_some : ∀ {ds : List PyData} {bs : List Bool}, asBs ds = some bs → ds = bs.map .bool
  | [], _, h => by cases h; rfl
  | d :: ds, bs, h => by
    cases d <;> simp [asBs] at h
    obtain ⟨r, h1, h2⟩ := h
    subst h2
    rw [asBs_some h1]
    rfl
theorem asIs_some : ∀ {ds : List PyData} {bs : List Int}, asIs ds = some bs → ds = bs.map .int
  | [], _, h => by cases h; rfl
  | d :: ds, bs, h => by
    cases d <;> simp [asIs] at h
    obtain ⟨r, h1, h2⟩ := h
    subst h2
    rw [asIs_some h1]
    rfl
theorem asSs_some : ∀ {ds : List PyData} {bs : List Str}, asSs ds = some bs → ds = bs.map .str
  | [], _, h => by cases h; rfl
  | d :: ds, bs, h => by
    cases d <;> simp [asSs] at h
    obtain ⟨r, h1, h2⟩ := h
    subst h2
    rw [asSs_some h1]
    rfl
theorem asBs_map (bs : List Bool) : asBs (bs.map .bool) = some bs := by
  induction bs with
  | nil => rfl
  | cons b r ih => simp [asBs, ih]
theorem asIs_map (bs : List Int) : asIs (bs.map .int) = some bs := by
  induction bs with
  | nil => rfl
  | cons b r ih => simp [asIs, ih]
theorem asSs_map (bs : List Str) : asSs (bs.map .str) = some bs := by
  induction bs with
  | nil => rfl
  | cons b r ih => simp [asSs, ih]
def onL (g : List PyData → Option PyData) : PyData → Option PyData
  | .list xs => g xs
  | _ => none
theorem onL_some {g : List PyData → Option PyData} {d z : PyData} (h : onL g d = some z) : ∃ xs, d = .list xs ∧ g xs = some z := by
  cases d <;> simp [onL] at h
  exact ⟨_, rfl, h⟩
def allD : PyData → Option PyData := onL fun xs => (asBs xs).map fun bs => .bool (bs.all id)
def sumD : PyData → Option PyData := onL fun xs => (asIs xs).map fun bs => .int bs.sum
theorem all_ok {K : PySem.W.Frag} : RLok K (rAll K) (on1 allD) := by
  intro H G xs ds z Q s r e q
  obtain ⟨d, rfl, e1⟩ := on1_some e
  obtain ⟨v, rfl, rv⟩ := r.one
  obtain ⟨ys, rfl, e2⟩ := onL_some e1
  cases e3 : asBs ys with
  | none => rw [e3] at e2; cases e2
  | some bs =>
    rw [e3] at e2
    cases e2
    cases rv with
    | lst hs ha =>
      rw [asBs_some e3] at ha
      rw [ha.bls] at hs
      exact ⟨_, bs, rfl, SqL.of (s _ _ hs), q.now s (.bl _)⟩
theorem sum_ok {K : PySem.W.Frag} : RLok K (rSum K) (on1 sumD) := by
  intro H G xs ds z Q s r e q
  obtain ⟨d, rfl, e1⟩ := on1_some e
  obtain ⟨v, rfl, rv⟩ := r.one
  obtain ⟨ys, rfl, e2⟩ := onL_some e1
  cases e3 : asIs ys with
  | none => rw [e3] at e2; cases e2
  | some bs =>
    rw [e3] at e2
    cases e2
    cases rv with
    | lst hs ha =>
      rw [asIs_some e3] at ha
      rw [ha.ints] at hs
      exact ⟨_, bs, rfl, SqL.of (s _ _ hs), q.now s (.int _)⟩
theorem pd_all (hc : X.calm = true) (hm : X.mg "all" = none) (ha : PDE X m e te fe) (hg : Gl X "all" := by rfl) (hs : starEach [e] X.env = (false, eval e X.env) :: starEach [] X.env := by rfl) : PDE X m (.Call (.Name "all" p) [e] [] pos) (tCB (rAll X.K) (tCons te tNil)) (fL (on1 allD) (fA fe fA0)) :=
  pd_callB (cr_all hc) all_ok hg hm (by decide +kernel) (pd_a ha pd_a0 hs) (he := hs)
theorem pd_sum (hc : X.calm = true) (hm : X.mg "sum" = none) (ha : PDE X m e te fe) (hg : Gl X "sum" := by rfl) (hs : starEach [e] X.env = (false, eval e X.env) :: starEach [] X.env := by rfl) : PDE X m (.Call (.Name "sum" p) [e] [] pos) (tCB (rSum X.K) (tCons te tNil)) (fL (on1 sumD) (fA fe fA0)) :=
  pd_callB (cr_sum hc) sum_ok hg hm (by decide +kernel) (pd_a ha pd_a0 hs) (he := hs)
/-! max, min of two ints -/
def maxD := int2 fun i j => some (.int (if j > i then j else i))
def minD := int2 fun i j => some (.int (if j < i then j else i))
def rMx2 : List V → Hp → VK → Prop := fun xs H Q => ∃ i j, xs = [.int i, .int j] ∧ Q (.int (if j > i then j else i)) H
def rMn2 : List V → Hp → VK → Prop := fun xs H Q => ∃ i j, xs = [.int i, .int j] ∧ Q (.int (if j < i then j else i)) H
theorem max_ok {K : PySem.W.Frag} : RLok K rMx2 (on2 maxD) := by
  intro H G xs ds z Q s r e q
  obtain ⟨d, e', rfl, e1⟩ := on2_some e
  obtain ⟨i, j, rfl, rfl, e2⟩ := int2_some e1
  obtain ⟨v, w, rfl, rv, rw'⟩ := r.two
  cases rv
  cases rw'
  cases e2
  exact ⟨i, j, rfl, q.now s (.int _)⟩
theorem min_ok {K : PySem.W.Frag} : RLok K rMn2 (on2 minD) := by
  intro H G xs ds z Q s r e q
  obtain ⟨d, e', rfl, e1⟩ := on2_some e
  obtain ⟨i, j, rfl, rfl, e2⟩ := int2_some e1
  obtain ⟨v, w, rfl, rv, rw'⟩ := r.two
  cases rv
  cases rw'
  cases e2
  exact ⟨i, j, rfl, q.now s (.int _)⟩
theorem pd_max2 (hc : X.calm = true) (hm : X.mg "max" = none) (ha : PDA X m [a, b] t f) (hg : Gl X "max" := by rfl) (he : starEach [a, b] X.env = (false, eval a X.env) :: starEach [b] X.env := by rfl) (hpl : (backTo pos (starEach [b] X.env)).any (·.1) = false := by rfl) : PDE X m (.Call (.Name "max" p) [a, b] [] pos) (tCB rMx2 t) (fL (on2 maxD) f) :=
  pd_callB (call_max2 hc) max_ok hg hm (by decide +kernel) ha (he := he) (hpl := hpl)
theorem pd_min2 (hc : X.calm = true) (hm : X.mg "min" = none) (ha : PDA X m [a, b] t f) (hg : Gl X "min" := by rfl) (he : starEach [a, b] X.env = (false, eval a X.env) :: starEach [b] X.env := by rfl) (hpl : (backTo pos (starEach [b] X.env)).any (·.1) = false := by rfl) : PDE X m (.Call (.Name "min" p) [a, b] [] pos) (tCB rMn2 t) (fL (on2 minD) f) :=
  pd_callB (call_min2 hc) min_ok hg hm (by decide +kernel) ha (he := he) (hpl := hpl)
/-! tuple, list -/
def tupD : PyData → Option PyData
  | .list xs => some (.tuple xs)
  | .tuple xs => some (.tuple xs)
  | _ => none
def lstD : PyData → Option PyData
  | .list xs => some (.list xs)
  | .tuple xs => some (.list xs)
  | _ => none
def rTupA (K : PySem.W.Frag) : List V → Hp → VK → Prop := fun xs H Q => ∃ p ys, xs = [.ref p] ∧ ((SqL K H p ys ∧ ∀ l, H l = none → Q (.ref l) (upd H l (.tup ys))) ∨ (SqT K H p ys ∧ Q (.ref p) H))
def rLstA (K : PySem.W.Frag) : List V → Hp → VK → Prop := fun xs H Q => ∃ p ys, xs = [.ref p] ∧ (SqL K H p ys ∨ SqT K H p ys) ∧ ∀ l, H l = none → Q (.ref l) (upd H l (.lst ys))
theorem tup_ok {K : PySem.W.Frag} : RLok K (rTupA K) (on1 tupD) := by
  intro H G xs ds z Q s r e q
  obtain ⟨d, rfl, e1⟩ := on1_some e
  obtain ⟨v, rfl, rv⟩ := r.one
  cases d with
  | list ys =>
    cases e1
    cases rv with
    | lst hs ha => exact ⟨_, _, rfl, .inl ⟨SqL.of (s _ _ hs), fun l hl => q.tup s ha hl⟩⟩
  | tuple ys =>
    cases e1
    cases rv with
    | tup hs ha => exact ⟨_, _, rfl, .inr ⟨sqt_mono s hs, q.now s (.tup hs ha)⟩⟩
  | none => cases e1
  | bool _ => cases e1
  | int _ => cases e1
  | str _ => cases e1
  | dict _ => cases e1
theorem lst_ok {K : PySem.W.Frag} : RLok K (rLstA K) (on1 lstD) := by
  intro H G xs ds z Q s r e q
  obtain ⟨d, rfl, e1⟩ := on1_some e
  obtain ⟨v, rfl, rv⟩ := r.one
  cases d with
  | list ys =>
    cases e1
    cases rv with
    | lst hs ha => exact ⟨_, _, rfl, .inl (SqL.of (s _ _ hs)), fun l hl => q.lst s ha hl⟩
  | tuple ys =>
    cases e1
    cases rv with
    | tup hs ha => exact ⟨_, _, rfl, .inr (sqt_mono s hs), fun l hl => q.lst s ha hl⟩
  | none => cases e1
  | bool _ => cases e1
  | int _ => cases e1
  | str _ => cases e1
  | dict _ => cases e1
theorem pd_toTup (hm : X.mg "tuple" = none) (ha : PDE X m e te fe) (hg : Gl X "tuple" := by rfl) (hs : starEach [e] X.env = (false, eval e X.env) :: starEach [] X.env := by rfl) : PDE X m (.Call (.Name "tuple" p) [e] [] pos) (tCB (rTupA X.K) (tCons te tNil)) (fL (on1 tupD) (fA fe fA0)) :=
  pd_callTy call_tuple_of tup_ok hg hm (by decide +kernel) (pd_a ha pd_a0 hs) (he := hs)
theorem pd_toLst (hm : X.mg "list" = none) (ha : PDE X m e te fe) (hg : Gl X "list" := by rfl) (hs : starEach [e] X.env = (false, eval e X.env) :: starEach [] X.env := by rfl) : PDE X m (.Call (.Name "list" p) [e] [] pos) (tCB (rLstA X.K) (tCons te tNil)) (fL (on1 lstD) (fA fe fA0)) :=
  pd_callTy call_list_of lst_ok hg hm (by decide +kernel) (pd_a ha pd_a0 hs) (he := hs)
/-! isinstance -/
def tyN : PyData → String
  | .none => "NoneType"
  | .bool _ => "bool"
  | .int _ => "int"
  | .str _ => "str"
  | .list _ => "list"
  | .tuple _ => "tuple"
  | .dict ((.none, _) :: _) => "list"
  | .dict _ => "dict"
theorem tyN_key (k : Key) (d : PyData) (ds : List (PyData × PyData)) : tyN (.dict ((keyD k, d) :: ds)) = "dict" := by cases k <;> rfl
theorem tyx_of {K : PySem.W.Frag} {H : Hp} {x : V} {d : PyData} (r : Rp K H x d) : TyX K H x (.type (tyN d)) := by
  cases r with
  | non => exact .base .non
  | bl b => exact .base (.bl b)
  | int i => exact .base (.int i)
  | str z => exact .base (.str z)
  | lst hs ha =>
    exact .base (.lst hs)
  | tup hs ha =>
    rcases hs with (h | ⟨o, h⟩) | ⟨o, its, n, h1, h2, _⟩
    · exact .base (.tup h)
    · exact .fTuple h
    · exact .kTuple h1 h2
  | dct hs ha =>
    cases ha with
    | nil => exact .base (.dK hs)
    | cons a b =>
      rw [tyN_key]
      exact .base (.dK hs)
  | scr hs =>
    rcases hs with (h | ⟨o, h⟩) | ⟨o, its, n, h1, h2, _⟩
    · exact .base (.lst h)
    · exact .base (.frz h)
    · exact .kList h1 h2
def isI (T : String) (ans : PyData → Bool) : Prop := ∀ d, kitB (tyN d) T = some (ans d)
def isStrD : PyData → Bool | .str _ => true | _ => false
def isIntD : PyData → Bool | .int _ => true | .bool _ => true | _ => false
def isBoolD : PyData → Bool | .bool _ => true | _ => false
def isTupD : PyData → Bool | .tuple _ => true | _ => false
theorem is_str : isI "str" isStrD := fun d => by unfold tyN isStrD; split <;> first | decide +kernel | (simp only; decide +kernel)
theorem is_int : isI "int" isIntD := fun d => by unfold tyN isIntD; split <;> first | decide +kernel | (simp only; decide +kernel)
theorem is_bool : isI "bool" isBoolD := fun d => by unfold tyN isBoolD; split <;> first | decide +kernel | (simp only; decide +kernel)
theorem is_tup : isI "tuple" isTupD := fun d => by unfold tyN isTupD; split <;> first | decide +kernel | (simp only; decide +kernel)
theorem pd_isi {x : Str} {T : String} {ans : PyData → Bool} {p1 : Pos} (hi : isI T ans) (hm : X.mg "isinstance" = none) (hm1 : X.mg x = none) (hv : bootBuiltins x = some (.type T)) (ha : PDE X m e te fe) (hg : Gl X "isinstance" := by rfl) (hg1 : Gl X x := by rfl)
    (hn : x ≠ "__name__" := by decide) (hdb : (x == ("__debug__" : Str)) = false := by decide) (hs : starEach [e, .Name x p1] X.env = (false, eval e X.env) :: starEach [.Name x p1] X.env := by rfl) (hs2 : starEach [.Name x p1] X.env = (false, eval (.Name x p1) X.env) :: starEach [] X.env := by rfl) :
    PDE X m (.Call (.Name "isinstance" p) [e, .Name x p1] [] pos) (tCB (rIsi X.K) (tCons te (tCons (tC (.ty T)) tNil))) (f1 (fun d => some (.bool (ans d))) fe) := by
  refine ⟨pe_callB call_isi hg hm (by decide +kernel) (pa_cons ha.p (pa_cons (pe_bltn hg1 hm1 hv rfl hn hdb) pa_nil hs2) hs) (he := hs) (hpl := by rw [hs2]; rfl), fun H0 G0 σ ρ H G Q d o e q => ?_⟩
  obtain ⟨y, e1, e2⟩ := f1_some e
  cases e2
  refine ha.r H0 G0 σ ρ H G _ y o e1 fun v H1 G1 g1 r1 => ?_
  exact ⟨v, .ty T, .type (tyN y), .type T, ans y, rfl, .ty T, tyx_of (r1.mono g1.gh), kit_ty (hi y), q _ H1 G1 g1 (.bl _)⟩
/-! sep.join(list of texts) -/
def joinD (d e : PyData) : Option PyData := match d, e with
  | .str a, .list xs => (asSs xs).bind fun ys => if (ys.map (·.length)).sum + ys.length * a.length ≤ 16777216 then some (.str (Txt.join a ys)) else none
  | _, _ => none
def rJoinA (K : PySem.W.Frag) : V → List V → Hp → VK → Prop := fun x xs H Q => ∃ a p, ∃ ys : List Str, x = .str a ∧ xs = [.ref p] ∧ (SqL K H p (ys.map V.str) ∨ SqT K H p (ys.map V.str)) ∧
    (ys.map (·.length)).sum + ys.length * a.length ≤ 16777216 ∧ Q (.str (Txt.join a ys)) H
theorem pd_join {apos : Pos} (ha : PDE X m a ta fa) (hb : PDE X m b tb fb) (hs : starEach [b] X.env = [(false, eval b X.env)] := by rfl) (hbase : attributeBase a "join" X.env (eval a X.env) = eval a X.env := by rfl) (hline : (apos.endLine == pos.line) = true := by rfl) :
    PDE X m (.Call (.Attribute a "join" apos) [b] [] pos) (tM1 (rJoinA X.K) ta tb) (f2 joinD fa fb) := by
  refine ⟨pe_join ha.p hb.p hs hbase hline, fun H0 G0 σ ρ H G Q d o h q => ?_⟩
  obtain ⟨x, y, e1, e2, e3⟩ := f2_some h
  refine ha.r H0 G0 σ ρ H G _ x o e1 fun v H1 G1 g1 r1 => ?_
  cases x with
  | str z =>
    cases r1
    refine ⟨⟨_, rfl⟩, ?_⟩
    refine hb.r H0 G0 σ ρ H1 G1 _ y (o.grow g1) e2 fun u H2 G2 g2 r2 => ?_
    cases y with
    | list xs =>
      unfold joinD at e3
      simp only at e3
      cases e4 : asSs xs with
      | none => rw [e4] at e3; cases e3
      | some ys =>
        rw [e4] at e3
        have e5 : (if (ys.map (·.length)).sum + ys.length * z.length ≤ 16777216 then some (PyData.str (Txt.join z ys)) else none) = some d := e3
        split at e5
        · rename_i hz
          cases e5
          cases r2 with
          | lst hs' ha' =>
            rw [asSs_some e4] at ha'
            rw [ha'.strs] at hs'
            exact ⟨z, _, ys, rfl, rfl, .inl (SqL.of (g2.gh _ _ hs')), hz, q _ H2 G2 (g1.trans g2) (.str _)⟩
        · cases e5
    | none => cases e3
    | bool _ => cases e3
    | int _ => cases e3
    | str _ => cases e3
    | tuple _ => cases e3
    | dict _ => cases e3
  | none => cases e3
  | bool _ => cases e3
  | int _ => cases e3
  | list _ => cases e3
  | tuple _ => cases e3
  | dict _ => cases e3
end
end Tl

/-! Statements, loops, comprehensions, defs. -/
namespace Tl
open PySem PySem.Spec PyProof.Rows L2

inductive Out where
  | nx (ρ : En)
  | rt (d : PyData)
  | bad
/-- what is wanted behind a statement that comes to o -/
def EOk (K : PySem.W.Frag) (H0 G0 G : Hp) (m : Mk) (D : Ends) : Out → Prop
  | .nx ρ => ∀ σ' H' G', Same G G' → Ok K H0 G0 m σ' ρ H' G' → D.nx σ' H'
  | .rt d => ∀ v H' G', Gr H0 G0 H' G' → Rp K G' v d → D.rt v H'
  | .bad => False
def RS (K : PySem.W.Frag) (m m' : Mk) (t : TS) (f : En → Out) : Prop :=
  ∀ H0 G0 (D : Ends) σ ρ H G, Ok K H0 G0 m σ ρ H G → EOk K H0 G0 G m' D (f ρ) → t D σ H
structure PDS (X : Cx) (m m' : Mk) (st : Stmt) (t : TS) (f : En → Out) : Prop where
  p : PS X st t
  r : RS X.K m m' t f
structure PDB (X : Cx) (m m' : Mk) (st : List Stmt) (t : TS) (f : En → Out) : Prop where
  p : PSs X st t
  r : RS X.K m m' t f
theorem EOk.grow {K : PySem.W.Frag} {H0 G0 G G1 : Hp} {m : Mk} {D : Ends} {o : Out} (h : EOk K H0 G0 G m D o) (s : Same G G1) : EOk K H0 G0 G1 m D o := by
  cases o with
  | nx ρ => exact fun σ' H' G' q ok => h σ' H' G' (s.trans q) ok
  | rt d => exact h
  | bad => exact h
section
variable {K : PySem.W.Frag} {H0 G0 H G H' G' : Hp} {m m' m1 m2 : Mk} {σ : L2.St} {ρ : En}
theorem Ok.mask (o : Ok K H0 G0 m σ ρ H G) (h : ∀ j, kd m j = kd m' j) : Ok K H0 G0 m' σ ρ H G :=
  ⟨o.gr, fun i d e => by rw [← h i]; exact o.slot i d e, fun i j p d e ij a b => by rw [← h i] at a; rw [← h j] at b; exact o.dis i j p d e ij a b, o.len⟩
theorem Ok.set (o : Ok K H0 G0 m σ ρ H G) {i : Nat} {v : V} {d : PyData} (hk : kd m i = .val) (r : Rp K G v d) : Ok K H0 G0 m (σ.set i (some v)) (ρ.set i (some d)) H G := by
  refine ⟨o.gr, fun j e he => ?_, fun j l p e e' jl a b h1 h2 h3 h4 => ?_, by simp [o.len]⟩
  · by_cases q : i = j
    · subst q
      have hi : i < ρ.length := by
        by_cases z : i < ρ.length
        · exact z
        · rw [List.getElem?_eq_none (by simp; omega)] at he
          cases he
      rw [List.getElem?_set_self hi] at he
      cases he
      refine ⟨v, by rw [List.getElem?_set_self (by rw [o.len]; exact hi)], ?_⟩
      rw [hk]
      exact r
    · rw [List.getElem?_set_ne q] at he ⊢
      exact o.slot j e he
  · have q1 : i ≠ j := fun z => a (by rw [← z]; exact hk)
    have q2 : i ≠ l := fun z => b (by rw [← z]; exact hk)
    rw [List.getElem?_set_ne q1] at h1 h3
    rw [List.getElem?_set_ne q2] at h2 h4
    exact o.dis j l p e e' jl a b h1 h2 h3 h4
/-- a slot forgotten -/
theorem Ok.wipe1 (o : Ok K H0 G0 m σ ρ H G) (i : Nat) : Ok K H0 G0 m (σ.set i none) (ρ.set i none) H G := by
  have back : ∀ (j : Nat) (e : PyData), (ρ.set i none)[j]? = some (some e) → i ≠ j ∧ ρ[j]? = some (some e) := fun j e he => by
    by_cases q : i = j
    · subst q
      by_cases z : i < ρ.length
      · rw [List.getElem?_set_self z] at he
        cases he
      · rw [List.getElem?_eq_none (by simp; omega)] at he
        cases he
    · rw [List.getElem?_set_ne q] at he
      exact ⟨q, he⟩
  refine ⟨o.gr, fun j e he => ?_, fun j l p e e' jl a b h1 h2 h3 h4 => ?_, by simp [o.len]⟩
  · obtain ⟨q, he⟩ := back j e he
    rw [List.getElem?_set_ne q]
    exact o.slot j e he
  · obtain ⟨q1, h1⟩ := back j e h1
    obtain ⟨q2, h2⟩ := back l e' h2
    rw [List.getElem?_set_ne q1] at h3
    rw [List.getElem?_set_ne q2] at h4
    exact o.dis j l p e e' jl a b h1 h2 h3 h4
def wipeE (ρ : En) : List Nat → En
  | [] => ρ
  | v :: vs => (wipeE ρ vs).set v none
theorem Ok.wipe (o : Ok K H0 G0 m σ ρ H G) : ∀ vs : List Nat, Ok K H0 G0 m (L2.wipe σ vs) (wipeE ρ vs) H G
  | [] => o
  | v :: vs => (o.wipe vs).wipe1 v
/-- a list of one's own becomes plain data -/
def fz (i : Nat) (m : Mk) : Mk := (i, .val) :: m
theorem kd_fz (i j : Nat) (m : Mk) : kd (fz i m) j = if j = i then .val else kd m j := by
  unfold kd fz
  by_cases h : j = i
  · subst h
    simp
  · rw [if_neg h, List.lookup_cons]
    have : (j == i) = false := beq_eq_false_iff_ne.mpr h
    rw [this]
theorem Ok.fz (o : Ok K H0 G0 m σ ρ H G) (i : Nat) : ∃ G', Same G G' ∧ Ok K H0 G0 (Tl.fz i m) σ ρ H G' := by
  by_cases hk : kd m i = .val
  · refine ⟨G, Same.refl _, o.mask fun j => ?_⟩
    rw [kd_fz]
    by_cases h : j = i
    · rw [if_pos h, h, hk]
    · rw [if_neg h]
  · by_cases hd : ∃ d, ρ[i]? = some (some d)
    · obtain ⟨d, hd⟩ := hd
      obtain ⟨v, h1, h2⟩ := o.slot i d hd
      have hk' : kd m i = .own := by
        cases q : kd m i with
        | val => exact absurd q hk
        | own => rfl
      rw [hk'] at h2
      obtain ⟨p, vs, ds, rfl, rfl, e3, e4, e5, e6⟩ := h2
      have g := o.gr.show e5 e4 e3
      have sg : Same G (upd G p (.lst vs)) := same_upd e4
      refine ⟨upd G p (.lst vs), sg, g, fun j d' hd' => ?_, fun j l q d1 d2 jl a b => ?_, o.len⟩
      · rw [kd_fz]
        by_cases h : j = i
        · subst h
          rw [if_pos rfl]
          rw [hd] at hd'
          cases hd'
          exact ⟨_, h1, .lst upd_same (e6.mono sg)⟩
        · rw [if_neg h]
          obtain ⟨u, u1, u2⟩ := o.slot j d' hd'
          refine ⟨u, u1, ?_⟩
          cases q : kd m j with
          | val =>
            rw [q] at u2
            exact Rp.mono u2 sg
          | own =>
            rw [q] at u2
            obtain ⟨p', vs', ds', rfl, rfl, f3, f4, f5, f6⟩ := u2
            have hne : p' ≠ p := fun z => by
              subst z
              exact o.dis j i p' _ _ h (by rw [q]; exact fun z => by cases z) hk hd' hd u1 h1
            exact ⟨p', vs', ds', rfl, rfl, f3, by rw [upd_ne hne]; exact f4, f5, f6.mono sg⟩
      · rw [kd_fz] at a b
        by_cases h : j = i
        · rw [if_pos h] at a
          exact absurd rfl a
        · by_cases h' : l = i
          · rw [if_pos h'] at b
            exact absurd rfl b
          · rw [if_neg h] at a
            rw [if_neg h'] at b
            exact o.dis j l q d1 d2 jl a b
    · refine ⟨G, Same.refl _, o.gr, fun j d' hd' => ?_, fun j l q d1 d2 jl a b => ?_, o.len⟩
      · have h : j ≠ i := fun z => hd ⟨d', by rw [← z]; exact hd'⟩
        rw [kd_fz, if_neg h]
        exact o.slot j d' hd'
      · rw [kd_fz] at a b
        by_cases h : j = i
        · rw [if_pos h] at a
          exact absurd rfl a
        · by_cases h' : l = i
          · rw [if_pos h'] at b
            exact absurd rfl b
          · rw [if_neg h] at a
            rw [if_neg h'] at b
            exact o.dis j l q d1 d2 jl a b
end

section
variable {X : Cx} {m m' m1 m2 : Mk} {a b c e : Expr} {ta tb tc te : TE} {fa fb fc fe : En → Option PyData} {pos : Pos} {t u : TS} {f g : En → Out} {st : Stmt} {rest : List Stmt} {tt : TT} {ft : En → Option Bool}
/-! ### blocks -/
def fNext : En → Out := fun ρ => .nx ρ
def fSeq (f g : En → Out) : En → Out := fun ρ => match f ρ with
  | .nx ρ' => g ρ'
  | .rt d => .rt d
  | .bad => .bad
theorem pd_nil : PDB X m m [] tNext fNext := ⟨pss_nil, fun _ _ D σ ρ H G o h => h σ H G (Same.refl _) o⟩
theorem pd_one1 (h : PDS X m m' st t f) : PDB X m m' [st] t f := ⟨pss_one h.p, h.r⟩
theorem pd_seq (h1 : PDS X m m1 st t f) (h2 : PDB X m1 m' rest u g) : PDB X m m' (st :: rest) (tSeq t u) (fSeq f g) := by
  refine ⟨pss_cons h1.p h2.p, fun H0 G0 D σ ρ H G o h => ?_⟩
  refine h1.r H0 G0 _ σ ρ H G o ?_
  unfold fSeq at h
  cases e : f ρ with
  | nx ρ' =>
    rw [e] at h
    exact fun σ' H' G' s ok => h2.r H0 G0 D σ' ρ' H' G' ok (h.grow s)
  | rt d => rw [e] at h; exact h
  | bad => rw [e] at h; exact h
/-- ghosts: a list of one's own is frozen behind, ahead -/
theorem RS.post {K : PySem.W.Frag} (i : Nat) (h : RS K m m1 t f) : RS K m (fz i m1) t f := by
  intro H0 G0 D σ ρ H G o q
  refine h H0 G0 D σ ρ H G o ?_
  cases e : f ρ with
  | nx ρ' =>
    rw [e] at q
    intro σ' H' G' s ok
    obtain ⟨G2, s2, ok2⟩ := ok.fz i
    exact q σ' H' G2 (s.trans s2) ok2
  | rt d => rw [e] at q; exact q
  | bad => rw [e] at q; exact q
theorem RS.pre {K : PySem.W.Frag} (i : Nat) (h : RS K (fz i m) m1 t f) : RS K m m1 t f := by
  intro H0 G0 D σ ρ H G o q
  obtain ⟨G2, s2, ok2⟩ := o.fz i
  exact h H0 G0 D σ ρ H G2 ok2 (q.grow s2)
theorem RS.mask {K : PySem.W.Frag} (h : RS K m m1 t f) (e : ∀ j, kd m1 j = kd m' j) : RS K m m' t f := by
  intro H0 G0 D σ ρ H G o q
  refine h H0 G0 D σ ρ H G o ?_
  cases z : f ρ with
  | nx ρ' =>
    rw [z] at q
    exact fun σ' H' G' s ok => q σ' H' G' s (ok.mask e)
  | rt d => rw [z] at q; exact q
  | bad => rw [z] at q; exact q
theorem RS.mask0 {K : PySem.W.Frag} (h : RS K m1 m' t f) (e : ∀ j, kd m j = kd m1 j) : RS K m m' t f := fun H0 G0 D σ ρ H G o q => h H0 G0 D σ ρ H G (o.mask e) q
theorem pdb_pre (i : Nat) (h : PDB X (fz i m) m' rest t f) : PDB X m m' rest t f := ⟨h.p, h.r.pre i⟩
theorem pdb_post (i : Nat) (h : PDB X m m1 rest t f) : PDB X m (fz i m1) rest t f := ⟨h.p, h.r.post i⟩
theorem pdb_mask (h : PDB X m m1 rest t f) (e : ∀ j, kd m1 j = kd m' j) : PDB X m m' rest t f := ⟨h.p, h.r.mask e⟩
theorem pdb_mask0 (h : PDB X m1 m' rest t f) (e : ∀ j, kd m j = kd m1 j) : PDB X m m' rest t f := ⟨h.p, h.r.mask0 e⟩
theorem pds_pre (i : Nat) (h : PDS X (fz i m) m' st t f) : PDS X m m' st t f := ⟨h.p, h.r.pre i⟩
theorem pds_post (i : Nat) (h : PDS X m m1 st t f) : PDS X m (fz i m1) st t f := ⟨h.p, h.r.post i⟩
/-! ### small statements -/
theorem pd_pass : PDS X m m (.Pass pos) tNext fNext := ⟨ps_pass, fun _ _ D σ ρ H G o h => h σ H G (Same.refl _) o⟩
def fRet (fe : En → Option PyData) : En → Out := fun ρ => match fe ρ with
  | some d => .rt d
  | none => .bad
theorem pd_ret (h : PDE X m e te fe) : PDS X m m' (.Return (some e) pos) (tRet te) (fRet fe) := by
  refine ⟨ps_ret h.p, fun H0 G0 D σ ρ H G o q => ?_⟩
  unfold fRet at q
  cases z : fe ρ with
  | none => rw [z] at q; exact q.elim
  | some d =>
    rw [z] at q
    exact h.r H0 G0 σ ρ H G _ d o z fun v H' G' g r => q v H' G' (o.gr.trans g) r
def fIf (ft : En → Option Bool) (f g : En → Out) : En → Out := fun ρ => match ft ρ with
  | some true => f ρ
  | some false => g ρ
  | none => .bad
theorem pd_if {ss ss' : List Stmt} (hc : PDT X m c tt ft) (ha : PDB X m m' ss t f) (hb : PDB X m m' ss' u g) : PDS X m m' (.If c ss ss' pos) (tIfS tt t u) (fIf ft f g) := by
  refine ⟨ps_if hc.p ha.p hb.p, fun H0 G0 D σ ρ H G o q => ?_⟩
  unfold fIf at q
  cases z : ft ρ with
  | none => rw [z] at q; exact q.elim
  | some k =>
    rw [z] at q
    refine hc.r H0 G0 σ ρ H G _ k o z fun H1 G1 g1 => ?_
    cases k with
    | true => exact ha.r H0 G0 D σ ρ H1 G1 (o.grow g1) (q.grow g1.gg)
    | false => exact hb.r H0 G0 D σ ρ H1 G1 (o.grow g1) (q.grow g1.gg)
/-! ### targets -/
def RG (K : PySem.W.Frag) (m : Mk) (g : TG) (f : PyData → En → Option En) : Prop :=
  ∀ H0 G0 σ ρ H G v d ρ' (Q : L2.St → Hp → Prop), Ok K H0 G0 m σ ρ H G → Rp K G v d → f d ρ = some ρ' → (∀ σ', Ok K H0 G0 m σ' ρ' H G → Q σ' H) → g v σ H Q
structure PDG (X : Cx) (m : Mk) (tg : Expr) (g : TG) (f : PyData → En → Option En) : Prop where
  p : PG X tg g
  r : RG X.K m g f
def gN (i : Nat) : PyData → En → Option En := fun d ρ => some (ρ.set i (some d))
theorem rg_name {K : PySem.W.Frag} {i : Nat} (hk : kd m i = .val) : RG K m (gName i) (gN i) := by
  intro H0 G0 σ ρ H G v d ρ' Q o r e q
  cases e
  exact q _ (o.set hk r)
theorem pg_n (i : Nat) {x : Str} {p : Pos} (hN : X.N.Nodup) (hi : X.N[i]? = some x := by rfl) (hx : Loc X.env.scope x := by first | exact Or.inl rfl | exact Or.inr rfl) (hk : kd m i = .val := by rfl)
    (hf : X.fn x = true ∨ X.env.scope.names.lookup x = some .local := by first | exact .inl rfl | exact .inr rfl | assumption) : PDG X m (.Name x p) (gName i) (gN i) := ⟨pg_name hN hi hx hf, rg_name hk⟩
def RGs (K : PySem.W.Frag) (m : Mk) (g : TGs) (f : List PyData → En → Option En) : Prop :=
  ∀ H0 G0 σ ρ H G vs ds ρ' (Q : L2.St → Hp → Prop), Ok K H0 G0 m σ ρ H G → RpAll K G vs ds → f ds ρ = some ρ' → (∀ σ', Ok K H0 G0 m σ' ρ' H G → Q σ' H) → g vs σ H Q
structure PDGs (X : Cx) (m : Mk) (ts : List Expr) (g : TGs) (f : List PyData → En → Option En) : Prop where
  p : PGs X ts g
  r : RGs X.K m g f
def gs0 : List PyData → En → Option En := fun ds ρ => match ds with
  | [] => some ρ
  | _ :: _ => none
def gsC (f : PyData → En → Option En) (g : List PyData → En → Option En) : List PyData → En → Option En := fun ds ρ => match ds with
  | [] => none
  | d :: r => (f d ρ).bind fun ρ' => g r ρ'
theorem pgs_0 : PDGs X m [] gNil gs0 := ⟨pgs_nil, fun H0 G0 σ ρ H G vs ds ρ' Q o r e q => by
  cases ds with
  | nil =>
    cases r
    cases e
    exact ⟨rfl, q _ o⟩
  | cons d ds => cases e⟩
theorem pgs_c {es : List Expr} {t : TG} {u : TGs} {f : PyData → En → Option En} {g : List PyData → En → Option En} (h1 : PDG X m e t f) (h2 : PDGs X m es u g)
    (hs : (assignEach (e :: es) X.env).map (·.2) = assign e X.env :: (assignEach es X.env).map (·.2) := by rfl) : PDGs X m (e :: es) (gCons t u) (gsC f g) := by
  refine ⟨pgs_cons h1.p h2.p hs, fun H0 G0 σ ρ H G vs ds ρ' Q o r z q => ?_⟩
  cases ds with
  | nil => cases z
  | cons d ds =>
    cases r with
    | cons r1 r2 =>
      have z' : (f d ρ).bind (fun ρ' => g ds ρ') = some ρ' := z
      cases e1 : f d ρ with
      | none => rw [e1] at z'; cases z'
      | some ρ1 =>
        rw [e1] at z'
        refine ⟨_, _, rfl, h1.r H0 G0 σ ρ H G _ d ρ1 _ o r1 e1 fun σ1 o1 => ?_⟩
        exact h2.r H0 G0 σ1 ρ1 H G _ ds ρ' Q o1 r2 z' q
def gT (g : List PyData → En → Option En) (n : Nat) : PyData → En → Option En := fun d ρ => match d with
  | .tuple ds => if ds.length = n then g ds ρ else none
  | _ => none
theorem pg_t {es : List Expr} {k : Nat} {u : TGs} {n : Nat} {g : List PyData → En → Option En} (hc : X.calm = true) (h : PDGs X m es u g)
    (hn : (assignEach es X.env).length = n := by rfl) (hst : (assignEach es X.env).findIdx? (·.1) = none := by rfl) : PDG X m (.Tuple es k pos) (gTup X.K n u) (gT g n) := by
  refine ⟨pg_tup hc h.p hn hst, fun H0 G0 σ ρ H G v d ρ' Q o r z q => ?_⟩
  cases d with
  | tuple ds =>
    unfold gT at z
    simp only at z
    split at z
    · rename_i hl
      cases r with
      | tup hs ha => exact ⟨_, _, rfl, sqt_mono o.gh hs, by rw [ha.length]; exact hl, h.r H0 G0 σ ρ H G _ ds ρ' Q o ha z q⟩
    · cases z
  | none => cases z
  | bool _ => cases z
  | int _ => cases z
  | str _ => cases z
  | list _ => cases z
  | dict _ => cases z
/-! ### assignments -/
def fAsg (fe : En → Option PyData) (g : PyData → En → Option En) : En → Out := fun ρ => match (fe ρ).bind fun d => g d ρ with
  | some ρ' => .nx ρ'
  | none => .bad
theorem rs_asg {K : PySem.W.Frag} {tg : TG} {g : PyData → En → Option En} (he : RE K m te fe) (hg : RG K m tg g) : RS K m m (tAsg te tg) (fAsg fe g) := by
  intro H0 G0 D σ ρ H G o q
  unfold fAsg at q
  cases z : fe ρ with
  | none => rw [z] at q; exact q.elim
  | some d =>
    rw [z] at q
    cases z2 : g d ρ with
    | none => simp only [Option.bind_some, z2] at q; exact q.elim
    | some ρ' =>
      simp only [Option.bind_some, z2] at q
      refine he H0 G0 σ ρ H G _ d o z fun v H1 G1 g1 r1 => ?_
      exact hg H0 G0 σ ρ H1 G1 v d ρ' _ (o.grow g1) r1 z2 fun σ' o' => q σ' H1 G1 g1.gg o'
theorem pd_set (i : Nat) {x : Str} {pos' : Pos} (hN : X.N.Nodup) (he : PDE X m e te fe) (hi : X.N[i]? = some x := by rfl) (hx : Loc X.env.scope x := by first | exact Or.inl rfl | exact Or.inr rfl) (hk : kd m i = .val := by rfl)
    (hs : swapsWith e (some (.Name x pos')) pos.line X.env = pure false := by rfl) (hf : X.fn x = true ∨ X.env.scope.names.lookup x = some .local := by first | exact .inl rfl | exact .inr rfl | assumption) :
    PDS X m m (.Assign [.Name x pos'] e pos) (tAsg te (gName i)) (fAsg fe (gN i)) := ⟨ps_set hN hi hx he.p hs hf, rs_asg he.r (rg_name hk)⟩
theorem pd_asg {tg : Expr} {tgt : TG} {g : PyData → En → Option En} (he : PDE X m e te fe) (hg : PDG X m tg tgt g) (hs : swapsWithSole [tg] e pos.line X.env = pure false := by rfl) (hw : swappedStores [tg] e X.env = pure none := by rfl)
    (h1 : (assignEach [tg] X.env).map (·.2) = [assign tg X.env] := by rfl) : PDS X m m (.Assign [tg] e pos) (tAsg te tgt) (fAsg fe g) := ⟨ps_asg he.p hg.p hs hw h1, rs_asg he.r hg.r⟩
/-- a, b = x, y, both names plain locals -/
def fPar (i j : Nat) (f : En → Option (List PyData)) : En → Out := fun ρ => match f ρ with
  | some [x, y] => .nx ((ρ.set i (some x)).set j (some y))
  | _ => .bad
theorem pd_par (i j : Nat) {x y : Str} {ta : TA} {fl : En → Option (List PyData)} {px py pt : Pos} {kt k2 : Nat} {pt2 : Pos} (hc : X.calm = true) (hN : X.N.Nodup) (ha : PDA X m [a, b] ta fl) (hi : X.N[i]? = some x := by rfl) (hj : X.N[j]? = some y := by rfl) (hij : i ≠ j := by decide)
    (hx : X.env.scope.names.lookup x = some .local := by rfl) (hy : X.env.scope.names.lookup y = some .local := by rfl) (hk : kd m i = .val := by rfl) (hk2 : kd m j = .val := by rfl)
    (hw : swappedStores [.Tuple [.Name x px, .Name y py] kt pt] (.Tuple [a, b] k2 pt2) X.env = pure (some [x, y]) := by rfl)
    (hs : swapsWithSole [.Tuple [.Name x px, .Name y py] kt pt] (.Tuple [a, b] k2 pt2) pos.line X.env = pure false := by rfl) :
    PDS X m m (.Assign [.Tuple [.Name x px, .Name y py] kt pt] (.Tuple [a, b] k2 pt2) pos) (tPar i j ta) (fPar i j fl) := by
  refine ⟨ps_par hc hN hi hj hij hx hy ha.p hw hs, fun H0 G0 D σ ρ H G o q => ?_⟩
  unfold fPar at q
  cases z : fl ρ with
  | none => rw [z] at q; exact q.elim
  | some ds =>
    rw [z] at q
    match ds, q, z with
    | [d, d'], q, z =>
      refine ha.r H0 G0 σ ρ H G _ _ o z fun vs H1 G1 g1 r1 => ?_
      obtain ⟨v, w, rfl, r2, r3⟩ := r1.two
      exact ⟨v, w, rfl, q _ H1 G1 g1.gg (((o.grow g1).set hk r2).set hk2 r3)⟩
    | [], q, _ => exact q.elim
    | [_], q, _ => exact q.elim
    | _ :: _ :: _ :: _, q, _ => exact q.elim
/-! ### lists of one's own -/
/-- x = [..], x one's own from here on -/
theorem pd_setOwn (i n : Nat) {x : Str} {pos' lpos : Pos} {es : List Expr} {ta : TA} {fl : En → Option (List PyData)} (hN : X.N.Nodup) (he : PDA X m es ta fl) (hn : Cnt n fl) (hz : n ≤ 1000 := by decide) (hi : X.N[i]? = some x := by rfl) (hx : Loc X.env.scope x := by first | exact Or.inl rfl | exact Or.inr rfl) (hk : kd m i = .val := by rfl)
    (hs : swapsWith (.List es lpos) (some (.Name x pos')) pos.line X.env = pure false := by rfl) (hf : X.fn x = true ∨ X.env.scope.names.lookup x = some .local := by first | exact .inl rfl | exact .inr rfl | assumption) :
    PDS X m ((i, .own) :: m) (.Assign [.Name x pos'] (.List es lpos) pos) (tAsg (tLst ta) (gName i)) (fAsg (fLst fl) (gN i)) := by
  refine ⟨ps_set hN hi hx (pe_lst he.p) hs hf, fun H0 G0 D σ ρ H G o q => ?_⟩
  unfold fAsg fLst fL at q
  cases z : fl ρ with
  | none => rw [z] at q; exact q.elim
  | some ds =>
    rw [z] at q
    refine he.r H0 G0 σ ρ H G _ ds o z fun vs H1 G1 g1 r1 => ⟨?_, fun p hp => ?_⟩
    · have := hn ρ ds z
      have := r1.length
      exact Nat.le_of_lt (small1000 (by omega))
    · have o1 := o.grow g1
      have hp0 : H0 p = none := o1.gr.hh.free hp
      have hpG : G1 p = none := o1.gh.free hp
      have g2 : Gr H1 G1 (upd H1 p (.lst vs)) G1 := Gr.hid o1.gh hp
      have o2 := o1.grow g2
      have kdS : ∀ j, kd ((i, .own) :: m) j = if j = i then .own else kd m j := fun j => by
        unfold kd
        by_cases h : j = i
        · subst h
          simp
        · rw [if_neg h, List.lookup_cons]
          have : (j == i) = false := beq_eq_false_iff_ne.mpr h
          rw [this]
      refine q _ _ G1 g1.gg ⟨o2.gr, fun j d hd => ?_, fun j l pp d1 d2 jl aa bb h1 h2 h3 h4 => ?_, by simp [o2.len]⟩
      · rw [kdS]
        by_cases h : i = j
        · subst h
          have hlt : i < ρ.length := by
            by_cases z' : i < ρ.length
            · exact z'
            · rw [List.getElem?_eq_none (by simp; omega)] at hd
              cases hd
          rw [List.getElem?_set_self hlt] at hd
          cases hd
          rw [if_pos rfl]
          refine ⟨.ref p, by rw [List.getElem?_set_self (by rw [o.len]; exact hlt)], p, vs, ds, rfl, rfl, upd_same, hpG, hp0, r1⟩
        · rw [if_neg (Ne.symm h)]
          rw [List.getElem?_set_ne h] at hd ⊢
          exact o2.slot j d hd
      · rw [kdS] at aa bb
        -- the new list is another one than those that stood
        have other : ∀ (j : Nat) (d : PyData), j ≠ i → kd m j ≠ .val → ρ[j]? = some (some d) → σ[j]? ≠ some (some (.ref p)) := fun j d ji kj hd hσ => by
          obtain ⟨v, e1, e2⟩ := o1.slot j d hd
          rw [hσ] at e1
          cases e1
          cases qk : kd m j with
          | val => exact kj qk
          | own =>
            rw [qk] at e2
            obtain ⟨p', _, _, e3, _, e4, _⟩ := e2
            cases e3
            rw [hp] at e4
            cases e4
        by_cases hj : j = i
        · subst hj
          have hl : l ≠ j := Ne.symm jl
          rw [if_neg hl] at bb
          rw [List.getElem?_set_ne jl] at h2 h4
          have hlt : j < σ.length := by
            by_cases z' : j < σ.length
            · exact z'
            · rw [List.getElem?_eq_none (by simp; omega)] at h3
              cases h3
          rw [List.getElem?_set_self hlt] at h3
          cases h3
          exact other l d2 hl bb h2 h4
        · rw [if_neg hj] at aa
          rw [List.getElem?_set_ne (Ne.symm hj)] at h1 h3
          by_cases hl : l = i
          · subst hl
            have hlt : l < σ.length := by
              by_cases z' : l < σ.length
              · exact z'
              · rw [List.getElem?_eq_none (by simp; omega)] at h4
                cases h4
            rw [List.getElem?_set_self hlt] at h4
            cases h4
            exact other j d1 hj aa h1 h3
          · rw [if_neg hl] at bb
            rw [List.getElem?_set_ne (Ne.symm hl)] at h2 h4
            exact o.dis j l pp d1 d2 jl aa bb h1 h2 h3 h4
/-- what the slot holds is changed in place -/
theorem Ok.chg {K : PySem.W.Frag} {H0 G0 H G : Hp} {σ : L2.St} {ρ : En} (o : Ok K H0 G0 m σ ρ H G) {i : Nat} {p : Addr} {vs : List V} {ds ds' : List PyData} {vs' : List V} (hk : kd m i = .own) (hd : ρ[i]? = some (some (.list ds))) (hσ : σ[i]? = some (some (.ref p)))
    (hG : G p = none) (h0 : H0 p = none) (r : RpAll K G vs' ds') : Ok K H0 G0 m σ (ρ.set i (some (.list ds'))) (upd H p (.lst vs')) G := by
  have hkn : kd m i ≠ .val := by rw [hk]; exact fun z => by cases z
  refine ⟨o.gr.mut h0 hG, fun j d hj => ?_, fun j l pp d1 d2 jl aa bb h1 h2 h3 h4 => ?_, by simp [o.len]⟩
  · by_cases h : i = j
    · subst h
      have hlt : i < ρ.length := (List.getElem?_eq_some_iff.mp hd).1
      rw [List.getElem?_set_self hlt] at hj
      cases hj
      rw [hk]
      exact ⟨.ref p, hσ, p, vs', ds', rfl, rfl, upd_same, hG, h0, r⟩
    · rw [List.getElem?_set_ne h] at hj
      obtain ⟨v, e1, e2⟩ := o.slot j d hj
      refine ⟨v, e1, ?_⟩
      cases q : kd m j with
      | val =>
        rw [q] at e2
        exact e2
      | own =>
        rw [q] at e2
        obtain ⟨p', vs2, ds2, rfl, rfl, e3, e4, e5, e6⟩ := e2
        have hne : p' ≠ p := fun z => by
          subst z
          exact o.dis j i p' _ _ (Ne.symm h) (by rw [q]; exact fun z => by cases z) hkn hj hd e1 hσ
        exact ⟨p', vs2, ds2, rfl, rfl, by rw [upd_ne hne]; exact e3, e4, e5, e6⟩
  · have back : ∀ (j : Nat) (d : PyData), (ρ.set i (some (.list ds')))[j]? = some (some d) → ∃ d', ρ[j]? = some (some d') := fun j d h => by
      by_cases z : i = j
      · subst z
        exact ⟨_, hd⟩
      · rw [List.getElem?_set_ne z] at h
        exact ⟨_, h⟩
    obtain ⟨e1, h1⟩ := back j d1 h1
    obtain ⟨e2, h2⟩ := back l d2 h2
    exact o.dis j l pp e1 e2 jl aa bb h1 h2 h3 h4
def fApp (i : Nat) (fe : En → Option PyData) : En → Out := fun ρ => match (ρ[i]?).join, fe ρ with
  | some (.list ds), some d => if ds.length < sizeLine then .nx (ρ.set i (some (.list (ds ++ [d])))) else .bad
  | _, _ => .bad
theorem join_some {ρ : En} {i : Nat} {d : PyData} (h : (ρ[i]?).join = some d) : ρ[i]? = some (some d) := by
  cases e : ρ[i]? with
  | none => rw [e] at h; cases h
  | some z => rw [e] at h; rw [show z = some d from h]
theorem pd_append (i : Nat) {x : Str} {p1 apos cpos : Pos} (he : PDE X m e te fe) (hN : X.N[i]? = some x := by rfl) (hv : Vis X.env.scope x := by first | exact Or.inl rfl | exact Or.inr (Or.inl rfl) | exact Or.inr (Or.inr rfl)) (hk : kd m i = .own := by rfl)
    (hd : (x == ("__debug__" : Str)) = false := by decide) (hcd : (x == ("__classdict__" : Str)) = false := by decide)
    (hbase : attributeBase (.Name x p1) "append" X.env (eval (.Name x p1) X.env) = eval (.Name x p1) X.env := by rfl)
    (hfew : ((backTo cpos (starEach [e] X.env)).all (fun x => !x.1) && (backToKw cpos (keywordEach [] X.env)).all (fun x => x.1.isSome) && decide ([e].length + ([] : List Keyword).length + (if ([] : List Keyword).isEmpty then 0 else 1) < 30)) = true := by rfl)
    (hline : (apos.endLine == cpos.line) = true := by rfl) (hs : starEach [e] X.env = (false, eval e X.env) :: starEach [] X.env := by rfl) (hpl : (backTo cpos (starEach [] X.env)).any (·.1) = false := by rfl)
    (hsw : swapsWith (.Call (.Attribute (.Name x p1) "append" apos) [e] [] cpos) none pos.line X.env = pure false := by rfl) :
    PDS X m m (.Expr (.Call (.Attribute (.Name x p1) "append" apos) [e] [] cpos) pos) (tDrop (tBM X.K "list" rAppend (tVar i) (tCons te tNil))) (fApp i fe) := by
  have pp : PE X (.Call (.Attribute (.Name x p1) "append" apos) [e] [] cpos) (tBM X.K "list" rAppend (tVar i) (tCons te tNil)) :=
    pe_bm PySem.F.plainAttrs_list PySem.F.slot_list_append PySem.F.type_list_append mt_append (pe_var hN hv hd hcd) (pa_cons he.p pa_nil hs) hbase hfew hline hs hpl
  refine ⟨ps_expr pp hsw, fun H0 G0 D σ ρ H G o q => ?_⟩
  unfold fApp at q
  cases z : (ρ[i]?).join with
  | none => simp only [z] at q; exact q.elim
  | some d0 =>
    cases z2 : fe ρ with
    | none =>
      cases d0 <;> simp only [z, z2] at q <;> exact q.elim
    | some d =>
      cases d0 with
      | list ds =>
        simp only [z, z2] at q
        split at q
        · rename_i hlen
          have hρ := join_some z
          obtain ⟨v, h1, h2⟩ := o.slot i _ hρ
          rw [hk] at h2
          obtain ⟨pa, vs, ds', rfl, e2, e3, e4, e5, e6⟩ := h2
          cases e2
          refine ⟨.ref pa, h1, .inl ⟨rfl, _, SqL.of e3⟩, ?_⟩
          refine he.r H0 G0 σ ρ H G _ d o z2 fun v H1 G1 g1 r1 => ?_
          have o1 := o.grow g1
          obtain ⟨v', h1', h2'⟩ := o1.slot i _ hρ
          rw [h1] at h1'
          cases h1'
          rw [hk] at h2'
          obtain ⟨pa', vs', ds', f1', f2', f3, f4, f5, f6⟩ := h2'
          cases f1'
          cases f2'
          refine ⟨pa, vs', v, rfl, rfl, f3, by rw [f6.length]; exact hlen, ?_⟩
          exact q σ _ G1 g1.gg (o1.chg (vs := vs') hk hρ h1 f4 f5 (f6.snoc r1))
        · exact q.elim
      | none => simp only [z, z2] at q; exact q.elim
      | bool _ => simp only [z, z2] at q; exact q.elim
      | int _ => simp only [z, z2] at q; exact q.elim
      | str _ => simp only [z, z2] at q; exact q.elim
      | tuple _ => simp only [z, z2] at q; exact q.elim
      | dict _ => simp only [z, z2] at q; exact q.elim
/-- list.extend by a tuple, whatever else the tuple's object bears -/
theorem ext_tup (l b : Addr) (xs ys : Array Value) (n k : Nat) (dd : Option Addr) (sl : Array (Option Value)) (h0 : ¬(!xs.isEmpty && Builtin.List.listTooLong (xs.size + ys.size)) = true) (h1 : xs.size ≤ sizeLine) (h2 : xs.size + ys.size ≤ sizeLine + 1) :
    Meets (Builtin.«list.extend» ⟨[.ref l, .ref b], []⟩) (fun _ R s => s.heap.get? l = some { cls := .type "list", data := .seq xs n } ∧ s.heap.get? b = some ⟨.type "tuple", dd, .seq ys k, sl⟩ ∧
      R (.ok (.ret Value.none)) { s with heap := s.heap.update l (Obj.mapSeq fun x => x ++ ys), toks := s.toks }) := by
  refine .of_wp fun prog w A R s h => ?_
  obtain ⟨hp, g, d, tk, os⟩ := s
  obtain ⟨hl, hb, h⟩ := h
  have z1 := AutoSeq1.idx_int
  have z2 := AutoSeq1.sub_tuple_tuple
  have z3 := AutoSeq1.sub_list_list
  have z4 := AutoSeq1.sub_tuple_list
  have z5 := AutoSeq1.sub_list_tuple
  have hz : (xs ++ ys).size ≤ sizeLine + 1 := by
    rw [Array.size_append]
    exact h2
  wp_walk using (wpAny_updateSeq hl rfl (hz := h1) (_hz' := hz)), AutoSeq1.wpAny_loadPart' hl, AutoSeq1.wpAny_loadPart' hb
  exact ⟨_, rfl, h⟩
/-- x.extend(a list, or a tuple) -/
def rExtT (K : PySem.W.Frag) : V → List V → Hp → VK → Prop := fun x vs H Q => ∃ l b xs zs, x = .ref l ∧ vs = [.ref b] ∧ H l = some (.lst xs) ∧ SqT K H b zs ∧ xs.length + zs.length ≤ sizeLine ∧ Q .non (upd H l (.lst (xs ++ zs)))
theorem mt_extT : MtM X "list.extend" (rExtT X.K) := by
  intro pins s σ H x vs v us Q I rx rv h
  obtain ⟨l, b, xs, zs, rfl, rfl, hl, hb, hz, q⟩ := h
  cases rx
  obtain ⟨u, rfl, ru⟩ := rv.one
  cases ru
  obtain ⟨_, is1, n1, r1, l1, e1⟩ := I.lstM hl
  obtain ⟨is2, r2, ⟨⟨oc, od, odt, osl⟩, e2, hc, n2, hd⟩, _⟩ := I.tuple hb
  have l2 := r2.length
  simp only at hc hd
  subst hc hd
  have room : is1.toArray.size + is2.toArray.size ≤ sizeLine := by
    simp only [List.size_toArray]
    omega
  have fits : ¬ (!is1.toArray.isEmpty && Builtin.List.listTooLong (is1.toArray.size + is2.toArray.size)) = true := by
    rw [notLongL room, Bool.and_false]
    decide
  refine call_meets F.slot_list_extend ⟨_, e1, rfl⟩ F.entry_list_extend (F.args_list_extend_2 _ _) (ext_tup l b is1.toArray is2.toArray n1 n2 od osl fits (by omega) (by omega)) ⟨e1, e2, ?_⟩
  have hnew : (xs ++ zs).length ≤ sizeLine := by
    rw [List.length_append]
    exact hz
  exact ⟨.non, _, I.lset (its' := is1 ++ is2) hl e1 (by simp) (r1.append r2) hnew, rfl, q⟩
def rExtA (K : PySem.W.Frag) : V → List V → Hp → VK → Prop := fun x vs H Q => rExtend x vs H Q ∨ rExtT K x vs H Q
theorem mt_extA : MtM X "list.extend" (rExtA X.K) := by
  intro pins s σ H x vs v us Q I rx rv h
  rcases h with h | h
  · exact mt_extend pins s σ H x vs v us Q I rx rv h
  · exact mt_extT pins s σ H x vs v us Q I rx rv h
end
end Tl

/-! Loops, comprehensions, calls of defs. -/
namespace Tl
open PySem PySem.Spec PyProof.Rows L2
section
variable {X : Cx} {m m' m1 m2 : Mk} {a b c e tg : Expr} {ta tb tc te : TE} {fa fb fc fe : En → Option PyData} {pos : Pos} {t u : TS} {f g : En → Out} {st : Stmt} {rest : List Stmt} {tt : TT} {ft : En → Option Bool}
/-- the items of a list or a tuple -/
def itemsOf : PyData → Option (List PyData)
  | .list xs => some xs
  | .tuple xs => some xs
  | .dict [(.none, .list xs)] => some xs
  | _ => none
def extOf : PyData → Option (List PyData)
  | .list xs => some xs
  | .tuple xs => some xs
  | _ => none
theorem ext_rp {K : PySem.W.Frag} {G : Hp} {v : V} {d : PyData} {es : List PyData} (r : Rp K G v d) (h : extOf d = some es) : ∃ p zs, v = .ref p ∧ (G p = some (.lst zs) ∨ SqT K G p zs) ∧ RpAll K G zs es := by
  unfold extOf at h
  split at h
  · cases h
    cases r with
    | lst hs ha => exact ⟨_, _, rfl, .inl hs, ha⟩
  · cases h
    cases r with
    | tup hs ha => exact ⟨_, _, rfl, .inr hs, ha⟩
  · cases h
def fExt (i : Nat) (fe : En → Option PyData) : En → Out := fun ρ => match (ρ[i]?).join, (fe ρ).bind extOf with
  | some (.list ds), some es => if ds.length + es.length ≤ sizeLine then .nx (ρ.set i (some (.list (ds ++ es)))) else .bad
  | _, _ => .bad
theorem items_rp {K : PySem.W.Frag} {G : Hp} {v : V} {d : PyData} {es : List PyData} (r : Rp K G v d) (h : itemsOf d = some es) : ∃ p zs, v = .ref p ∧ (SqL K G p zs ∨ SqT K G p zs) ∧ RpAll K G zs es := by
  unfold itemsOf at h
  split at h
  · cases h
    cases r with
    | lst hs ha => exact ⟨_, _, rfl, .inl (SqL.of hs), ha⟩
  · cases h
    cases r with
    | tup hs ha => exact ⟨_, _, rfl, .inr hs, ha⟩
  · cases h
    cases r with
    | scr hs => exact ⟨_, _, rfl, .inl hs, .of_ints _⟩
    | dct hs ha => exact (no_none ha).elim
  · cases h
theorem pd_extend (i : Nat) {x : Str} {p1 apos cpos : Pos} (he : PDE X m e te fe) (hN : X.N[i]? = some x := by rfl) (hv : Vis X.env.scope x := by first | exact Or.inl rfl | exact Or.inr (Or.inl rfl) | exact Or.inr (Or.inr rfl)) (hk : kd m i = .own := by rfl)
    (hd : (x == ("__debug__" : Str)) = false := by decide) (hcd : (x == ("__classdict__" : Str)) = false := by decide)
    (hbase : attributeBase (.Name x p1) "extend" X.env (eval (.Name x p1) X.env) = eval (.Name x p1) X.env := by rfl)
    (hfew : ((backTo cpos (starEach [e] X.env)).all (fun x => !x.1) && (backToKw cpos (keywordEach [] X.env)).all (fun x => x.1.isSome) && decide ([e].length + ([] : List Keyword).length + (if ([] : List Keyword).isEmpty then 0 else 1) < 30)) = true := by rfl)
    (hline : (apos.endLine == cpos.line) = true := by rfl) (hs : starEach [e] X.env = (false, eval e X.env) :: starEach [] X.env := by rfl) (hpl : (backTo cpos (starEach [] X.env)).any (·.1) = false := by rfl)
    (hsw : swapsWith (.Call (.Attribute (.Name x p1) "extend" apos) [e] [] cpos) none pos.line X.env = pure false := by rfl) :
    PDS X m m (.Expr (.Call (.Attribute (.Name x p1) "extend" apos) [e] [] cpos) pos) (tDrop (tBM X.K "list" (rExtA X.K) (tVar i) (tCons te tNil))) (fExt i fe) := by
  have pp : PE X (.Call (.Attribute (.Name x p1) "extend" apos) [e] [] cpos) (tBM X.K "list" (rExtA X.K) (tVar i) (tCons te tNil)) :=
    pe_bm PySem.F.plainAttrs_list PySem.F.slot_list_extend PySem.F.type_list_extend mt_extA (pe_var hN hv hd hcd) (pa_cons he.p pa_nil hs) hbase hfew hline hs hpl
  refine ⟨ps_expr pp hsw, fun H0 G0 D σ ρ H G o q => ?_⟩
  unfold fExt at q
  cases z : (ρ[i]?).join with
  | none => simp only [z] at q; exact q.elim
  | some d0 =>
    cases z2 : (fe ρ).bind extOf with
    | none =>
      cases d0 <;> simp only [z, z2] at q <;> exact q.elim
    | some es =>
      cases z3 : fe ρ with
      | none => rw [z3] at z2; cases z2
      | some d =>
        rw [z3] at z2
        have z4 : extOf d = some es := z2
        cases d0 with
        | list ds =>
          simp only [z, z3, Option.bind_some, z4] at q
          split at q
          · rename_i hlen
            have hρ := join_some z
            obtain ⟨v, h1, h2⟩ := o.slot i _ hρ
            rw [hk] at h2
            obtain ⟨pa, vs, ds', rfl, e2, e3, e4, e5, e6⟩ := h2
            cases e2
            refine ⟨.ref pa, h1, .inl ⟨rfl, _, SqL.of e3⟩, ?_⟩
            refine he.r H0 G0 σ ρ H G _ d o z3 fun v H1 G1 g1 r1 => ?_
            have o1 := o.grow g1
            obtain ⟨v', h1', h2'⟩ := o1.slot i _ hρ
            rw [h1] at h1'
            cases h1'
            rw [hk] at h2'
            obtain ⟨pa', vs', ds', f1', f2', f3, f4, f5, f6⟩ := h2'
            cases f1'
            cases f2'
            obtain ⟨pb, zs, rfl, hb, hz⟩ := ext_rp r1 z4
            have hlen' : vs'.length + zs.length ≤ sizeLine := by
              rw [f6.length, hz.length]
              exact hlen
            have fin := q σ _ G1 g1.gg (o1.chg (vs := vs') hk hρ h1 f4 f5 (f6.append hz))
            rcases hb with hb | hb
            · exact Or.inl ⟨pa, pb, vs', zs, rfl, rfl, f3, g1.gh _ _ hb, hlen', fin⟩
            · exact Or.inr ⟨pa, pb, vs', zs, rfl, rfl, f3, sqt_mono g1.gh hb, hlen', fin⟩
          · exact q.elim
        | none => simp only [z, z3, Option.bind_some, z4] at q; exact q.elim
        | bool _ => simp only [z, z3, Option.bind_some, z4] at q; exact q.elim
        | int _ => simp only [z, z3, Option.bind_some, z4] at q; exact q.elim
        | str _ => simp only [z, z3, Option.bind_some, z4] at q; exact q.elim
        | tuple _ => simp only [z, z3, Option.bind_some, z4] at q; exact q.elim
        | dict _ => simp only [z, z3, Option.bind_some, z4] at q; exact q.elim

/-! ### what is walked -/
/-- a walk J gives the data ds one by one, as long as G1 stands -/
structure Gives (K : PySem.W.Frag) (J : It) (G1 : Hp) (ds : List PyData) : Prop where
  ex : ∃ (Gd : Hp → Prop) (Y : Nat → Hp → V → Hp → Prop), Walk J ds.length Gd Y ∧ (∀ H' G', Same G1 G' → Same G' H' → Gd H') ∧
    ∀ i H' G' x H'' d, Same G1 G' → Same G' H' → Y i H' x H'' → ds[i]? = some d → ∃ G'', Gr H' G' H'' G'' ∧ Rp K G'' x d
def RI (K : PySem.W.Frag) (m : Mk) (wi : TI) (f : En → Option (List PyData)) : Prop :=
  ∀ H0 G0 σ ρ H G (R : It → Hp → Prop) ds, Ok K H0 G0 m σ ρ H G → f ρ = some ds → (∀ J H1 G1, Gr H G H1 G1 → Gives K J G1 ds → ds.length ≤ sizeLine → R J H1) → wi σ H R
structure PDI (X : Cx) (m : Mk) (tg iter : Expr) (wi : TI) (f : En → Option (List PyData)) : Prop where
  p : PI X tg iter wi
  r : RI X.K m wi f
/-- a list, or a tuple -/
def iSeqA (K : PySem.W.Frag) (tl : TE) : TI := fun σ H R => tl σ H fun x H1 => ∃ a xs, x = .ref a ∧ ((SqL K H1 a xs ∧ (xs.length ≤ sizeLine → R (Itl K a) H1)) ∨ (SqT K H1 a xs ∧ (xs.length ≤ sizeLine → R (Itt K a) H1)))
theorem pi_seqA {l : Expr} {tl : TE} (hl : PE X l tl) : PI X tg l (iSeqA X.K tl) := by
  refine ⟨fun pins s σ H R I h => ?_⟩
  -- ahead of the walk the length is read off the state
  have hv : ∀ (v : V) (H1 : Hp) (s1 : Shared) (uv : Value), Inv X pins σ H1 s1 → RelV v uv → (∃ a xs, v = .ref a ∧ ((SqL X.K H1 a xs ∧ (xs.length ≤ sizeLine → R (Itl X.K a) H1)) ∨ (SqT X.K H1 a xs ∧ (xs.length ≤ sizeLine → R (Itt X.K a) H1)))) →
      wpAny (model X.prog X.w) X.A (pyIter uv) (PIE X pins σ tg R) X.xe s1 := by
    rintro v H1 s1 uv I1 r1 ⟨a, xs, rfl, hq⟩
    cases r1
    have fr : ∀ b ∈ [s1.heap.objs.size], FpOk X pins H1 b := fun b hb => by
      rw [List.mem_singleton.mp hb]
      exact I1.fpOk (Nat.le_refl _) (I1.hok.fresh (Nat.le_refl _))
    rcases hq with ⟨hq, q⟩ | ⟨hq, q⟩
    · obtain ⟨its, rv, p, hz⟩ := I1.list hq
      exact wpAny_pyIter_list p.isList ⟨_, [s1.heap.objs.size], _, _, H1, rfl, I1.kept (t' := s1.toks) fun b o e => Heap.get?_push_of_some _ e, turn_list a _, ⟨_, Heap.get?_push_size _ rfl, rfl, rfl⟩, fr, q hz⟩
    · obtain ⟨its, rv, p, hz⟩ := I1.tuple hq
      exact wpAny_pyIter_tuple (show s1.heap.IsTuple a its.toArray from p) ⟨_, [s1.heap.objs.size], _, _, H1, rfl, I1.kept (t' := s1.toks) fun b o e => Heap.get?_push_of_some _ e, turn_tuple a _, ⟨_, Heap.get?_push_size _ rfl, rfl, rfl⟩, fr, q hz⟩
  exact thn (hl.run pins s σ H _ I h) fun v s1 ⟨x, H1, I1, r1, q1⟩ => hv x H1 s1 v I1 r1 q1
def fItems (fe : En → Option PyData) : En → Option (List PyData) := fun ρ => (fe ρ).bind itemsOf
theorem gives_list {K : PySem.W.Frag} {G1 : Hp} {p : Addr} {xs : List V} {ds : List PyData} (h : SqL K G1 p xs) (r : RpAll K G1 xs ds) : Gives K (Itl K p) G1 ds := by
  have hl := r.length
  refine ⟨⟨fun H => SqL K H p xs, YAt xs, ?_, fun H' G' s1 s2 => (s1.trans s2).seq h, fun i H' G' x H'' d s1 s2 y hd => ?_⟩⟩
  · rw [← hl]
    exact walk_list
  · obtain ⟨rfl, hx⟩ := y
    obtain ⟨v, h1, h2⟩ := r.get hd
    rw [hx] at h1
    cases h1
    exact ⟨G', Gr.refl s2, h2.mono s1⟩
theorem gives_tup {K : PySem.W.Frag} {G1 : Hp} {p : Addr} {xs : List V} {ds : List PyData} (h : SqT K G1 p xs) (r : RpAll K G1 xs ds) : Gives K (Itt K p) G1 ds := by
  have hl := r.length
  refine ⟨⟨fun H => SqT K H p xs, YAt xs, ?_, fun H' G' s1 s2 => sqt_mono (s1.trans s2) h, fun i H' G' x H'' d s1 s2 y hd => ?_⟩⟩
  · rw [← hl]
    exact walk_tup
  · obtain ⟨rfl, hx⟩ := y
    obtain ⟨v, h1, h2⟩ := r.get hd
    rw [hx] at h1
    cases h1
    exact ⟨G', Gr.refl s2, h2.mono s1⟩
theorem pi_s (he : PDE X m e te fe) : PDI X m tg e (iSeqA X.K te) (fItems fe) := by
  refine ⟨pi_seqA he.p, fun H0 G0 σ ρ H G R ds o h q => ?_⟩
  unfold fItems at h
  cases z : fe ρ with
  | none => rw [z] at h; cases h
  | some d =>
    rw [z] at h
    have h' : itemsOf d = some ds := h
    refine he.r H0 G0 σ ρ H G _ d o z fun v H1 G1 g1 r1 => ?_
    obtain ⟨p, zs, rfl, hb, hz⟩ := items_rp r1 h'
    have hl := hz.length
    refine ⟨p, zs, rfl, ?_⟩
    rcases hb with hb | hb
    · exact .inl ⟨g1.gh.seq hb, fun hs => q _ H1 G1 g1 (gives_list hb hz) (by omega)⟩
    · exact .inr ⟨sqt_mono g1.gh hb, fun hs => q _ H1 G1 g1 (gives_tup hb hz) (by omega)⟩
/-- range(n), range(a, b): few -/
def rangeL (i j : Int) : List PyData := (List.range (j - i).toNat).map fun (k : Nat) => PyData.int (i + k)
theorem gives_range {K : PySem.W.Frag} {G1 : Hp} (lo hi : Int) : Gives K (Itr lo (hi - lo).toNat) G1 (rangeL lo hi) := by
  refine ⟨⟨fun _ => True, YFn fun i => .int (lo + i), ?_, fun _ _ _ _ => True.intro, fun i H' G' x H'' d s1 s2 y hd => ?_⟩⟩
  · have : (rangeL lo hi).length = (hi - lo).toNat := by simp [rangeL]
    rw [this]
    exact walk_range
  · obtain ⟨rfl, rfl⟩ := y
    refine ⟨G', Gr.refl s2, ?_⟩
    unfold rangeL at hd
    rw [List.getElem?_map] at hd
    cases q : (List.range (hi - lo).toNat)[i]? with
    | none => rw [q] at hd; cases hd
    | some k =>
      rw [q] at hd
      cases hd
      have : k = i := by
        have := List.getElem?_eq_some_iff.mp q
        obtain ⟨h1, h2⟩ := this
        rw [List.getElem_range] at h2
        exact h2.symm
      subst this
      exact .int _
def rng1 (ds : List PyData) : Option (List PyData) := match ds with
  | [.int j] => if -1000000 ≤ j ∧ j ≤ 1000000 then some (rangeL 0 j) else none
  | _ => none
def rng2 (ds : List PyData) : Option (List PyData) := match ds with
  | [.int i, .int j] => if (-1000000 ≤ i ∧ i ≤ 1000000) ∧ -1000000 ≤ j ∧ j ≤ 1000000 then some (rangeL i j) else none
  | _ => none
def fRng1 (fl : En → Option (List PyData)) : En → Option (List PyData) := fun ρ => (fl ρ).bind rng1
def fRng2 (fl : En → Option (List PyData)) : En → Option (List PyData) := fun ρ => (fl ρ).bind rng2
theorem million (n : Nat) (h : n ≤ 2000000) : n ≤ sizeLine := Nat.le_trans h (by decide)
theorem pi_r1 {ta : TA} {fl : En → Option (List PyData)} {p : Pos} (hm : X.mg "range" = none) (ha : PDA X m [a] ta fl) (hg : Gl X "range" := by rfl) (hs : starEach [a] X.env = [(false, eval a X.env)] := by rfl) : PDI X m tg (.Call (.Name "range" p) [a] [] pos) (iRng1 ta) (fRng1 fl) := by
  refine ⟨pi_range1 hg hm ha.p hs, fun H0 G0 σ ρ H G R ds o h q => ?_⟩
  unfold fRng1 at h
  cases z : fl ρ with
  | none => rw [z] at h; cases h
  | some es =>
    rw [z] at h
    have h' : rng1 es = some ds := h
    refine ha.r H0 G0 σ ρ H G _ es o z fun vs H1 G1 g1 r1 => ?_
    unfold rng1 at h'
    split at h'
    · rename_i j
      obtain ⟨v, rfl, rv⟩ := r1.one
      cases rv
      split at h'
      · rename_i hj
        cases h'
        refine ⟨j, rfl, by omega, by omega, ?_⟩
        have gv : Gives X.K (Itr 0 (j - 0).toNat) G1 (rangeL 0 j) := gives_range 0 j
        rw [Int.sub_zero] at gv
        exact q _ H1 G1 g1 gv (million _ (by simp [rangeL]; omega))
      · cases h'
    · cases h'
theorem pi_r2 {ta : TA} {fl : En → Option (List PyData)} {p : Pos} (hm : X.mg "range" = none) (ha : PDA X m [a, b] ta fl) (hg : Gl X "range" := by rfl) (hs : starEach [a, b] X.env = [(false, eval a X.env), (false, eval b X.env)] := by rfl) (hs2 : starEach [b] X.env = [(false, eval b X.env)] := by rfl) :
    PDI X m tg (.Call (.Name "range" p) [a, b] [] pos) (iRng2 ta) (fRng2 fl) := by
  refine ⟨pi_range2 hg hm ha.p hs hs2, fun H0 G0 σ ρ H G R ds o h q => ?_⟩
  unfold fRng2 at h
  cases z : fl ρ with
  | none => rw [z] at h; cases h
  | some es =>
    rw [z] at h
    have h' : rng2 es = some ds := h
    refine ha.r H0 G0 σ ρ H G _ es o z fun vs H1 G1 g1 r1 => ?_
    unfold rng2 at h'
    split at h'
    · rename_i i j
      obtain ⟨v, w, rfl, rv, rw'⟩ := r1.two
      cases rv
      cases rw'
      split at h'
      · rename_i hj
        cases h'
        exact ⟨i, j, rfl, ⟨by omega, by omega, by omega, by omega⟩, q _ H1 G1 g1 (gives_range i j) (million _ (by simp [rangeL]; omega))⟩
      · cases h'
    · cases h'
/-- a text, sign by sign -/
def signsL (z : Str) : List PyData := z.cps.toList.map fun c => PyData.str ⟨#[c]⟩
def signsD (d : PyData) : Option (List PyData) := match d with
  | .str z => if z.length ≤ sizeLine then some (signsL z) else none
  | _ => none
def fSigns (fe : En → Option PyData) : En → Option (List PyData) := fun ρ => (fe ρ).bind signsD
theorem pi_t (he : PDE X m e te fe) : PDI X m tg e (iStr te) (fSigns fe) := by
  refine ⟨pi_str he.p, fun H0 G0 σ ρ H G R ds o h q => ?_⟩
  unfold fSigns at h
  cases z : fe ρ with
  | none => rw [z] at h; cases h
  | some d =>
    rw [z] at h
    have h' : signsD d = some ds := h
    refine he.r H0 G0 σ ρ H G _ d o z fun v H1 G1 g1 r1 => ?_
    cases d with
    | str y =>
      unfold signsD at h'
      simp only at h'
      split at h'
      · rename_i hz
        cases h'
        cases r1
        have hn : (signsL y).length = y.cps.size := by simp [signsL]
        refine ⟨y, rfl, q _ H1 G1 g1 ⟨⟨fun _ => True, fun i H v H' => H' = H ∧ ∃ c, y.cps[i]? = some c ∧ v = .str ⟨#[c]⟩, ?_, fun _ _ _ _ => True.intro, fun i H' G' x H'' d s1 s2 yy hd => ?_⟩⟩ (by rw [hn]; exact hz)⟩
        · rw [hn]
          exact walk_str
        · obtain ⟨rfl, c, hc, rfl⟩ := yy
          refine ⟨G', Gr.refl s2, ?_⟩
          unfold signsL at hd
          rw [List.getElem?_map, Array.getElem?_toList, hc] at hd
          cases hd
          exact .str _
      · cases h'
    | none => cases h'
    | bool _ => cases h'
    | int _ => cases h'
    | list _ => cases h'
    | tuple _ => cases h'
    | dict _ => cases h'
/-! ### for -/
def loopF (g : PyData → En → Option En) (f : En → Out) : List PyData → En → Out
  | [], ρ => .nx ρ
  | d :: r, ρ => match g d ρ with
    | none => .bad
    | some ρ1 => match f ρ1 with
      | .nx ρ2 => loopF g f r ρ2
      | .rt d => .rt d
      | .bad => .bad
def fFor (fi : En → Option (List PyData)) (g : PyData → En → Option En) (f : En → Out) : En → Out := fun ρ => match fi ρ with
  | some ds => loopF g f ds ρ
  | none => .bad
theorem pd_for {iter : Expr} {body : List Stmt} {wi : TI} {fi : En → Option (List PyData)} {tgt : TG} {g : PyData → En → Option En} (hp : PassesOwn (model X.prog X.w) X.A X.env X.xe) (hc : X.calm = true) (hi : PDI X m tg iter wi fi) (hg : PDG X m tg tgt g) (hb : PDB X m m body t f)
    (hs : ∀ x, foldedSetIterable iter X.env x = pure x := by intro _; rfl) : PDS X m m (.For tg iter body [] pos) (tFor wi tgt t) (fFor fi g f) := by
  refine ⟨ps_for hp hc hi.p hg.p hb.p hs, fun H0 G0 D σ ρ H G o q => ?_⟩
  unfold fFor at q
  cases z : fi ρ with
  | none => rw [z] at q; exact q.elim
  | some ds =>
    rw [z] at q
    refine hi.r H0 G0 σ ρ H G _ ds o z fun J H1 G1 g1 gv _ => ?_
    obtain ⟨Gd, Y, w, hGd, hY⟩ := gv.ex
    have q1 := q.grow g1.gg
    refine for_it w (fun i σ H => ∃ ρ G, Ok X.K H0 G0 m σ ρ H G ∧ Same G1 G ∧ EOk X.K H0 G0 G m D (loopF g f (ds.drop i) ρ)) ⟨ρ, G1, o.grow g1, Same.refl _, q1⟩ ?_ ?_ ?_
    · rintro i σ' H' _ ⟨ρ', G', o', s', _⟩
      exact hGd H' G' s' o'.gh
    · rintro i x σ' H' H'' hi ⟨ρ', G', o', s', q'⟩ y
      have hd : ds[i]? = some ds[i] := List.getElem?_eq_getElem hi
      obtain ⟨G2, gr2, rx⟩ := hY i H' G' x H'' ds[i] s' o'.gh y hd
      rw [List.drop_eq_getElem_cons hi] at q'
      have o2 := o'.grow gr2
      simp only [loopF] at q'
      cases e1 : g ds[i] ρ' with
      | none => rw [e1] at q'; exact q'.elim
      | some ρ1 =>
        rw [e1] at q'
        refine hg.r H0 G0 σ' ρ' H'' G2 x ds[i] ρ1 _ o2 rx e1 fun σ2 o3 => ?_
        refine hb.r H0 G0 _ σ2 ρ1 H'' G2 o3 ?_
        cases e2 : f ρ1 with
        | nx ρ2 =>
          simp only [e2] at q'
          intro σ3 H3 G3 s3 o4
          exact ⟨ρ2, G3, o4, (s'.trans gr2.gg).trans s3, q'.grow (gr2.gg.trans s3)⟩
        | rt d => simp only [e2] at q'; exact q'
        | bad => simp only [e2] at q'; exact q'.elim
    · rintro σ' H' ⟨ρ', G', o', s', q'⟩
      rw [List.drop_length] at q'
      exact q' σ' H' G' (Same.refl _) o'
/-! ### while -/
def loopW (ft : En → Option Bool) (f : En → Out) : Nat → En → Out
  | 0, _ => .bad
  | n + 1, ρ => match ft ρ with
    | none => .bad
    | some false => .nx ρ
    | some true => match f ρ with
      | .nx ρ2 => loopW ft f n ρ2
      | .rt d => .rt d
      | .bad => .bad
theorem pd_while {body : List Stmt} (n : Nat) (hp : PassesOwn (model X.prog X.w) X.A X.env X.xe) (hc : PDT X m c tt ft) (hb : PDB X m m body t f) : PDS X m m (.While c body [] pos) (tWhile tt t) (loopW ft f n) := by
  refine ⟨ps_while hp hc.p hb.p, fun H0 G0 D σ ρ H G o q => ?_⟩
  refine ⟨fun k σ H => ∃ ρ G', Ok X.K H0 G0 m σ ρ H G' ∧ Same G G' ∧ EOk X.K H0 G0 G' m D (loopW ft f k ρ), ⟨n, ρ, G, o, Same.refl _, q⟩, ?_⟩
  rintro k σ1 H1 ⟨ρ1, G1, o1, s1, q1⟩
  cases k with
  | zero => exact q1.elim
  | succ k =>
    simp only [loopW] at q1
    cases e1 : ft ρ1 with
    | none => rw [e1] at q1; exact q1.elim
    | some b =>
      rw [e1] at q1
      refine hc.r H0 G0 σ1 ρ1 H1 G1 _ b o1 e1 fun H2 G2 g2 => ?_
      have o2 := o1.grow g2
      cases b with
      | false => exact q1 σ1 H2 G2 g2.gg o2
      | true =>
        rw [if_pos rfl]
        refine ⟨fun σ H => ∃ ρ G', Ok X.K H0 G0 m σ ρ H G' ∧ Same G G' ∧ EOk X.K H0 G0 G' m D (loopW ft f k ρ), fun σ' H' n' => ⟨k, Nat.lt_succ_self k, n'⟩, ?_⟩
        refine hb.r H0 G0 _ σ1 ρ1 H2 G2 o2 ?_
        cases e2 : f ρ1 with
        | nx ρ2 =>
          simp only [e2] at q1
          intro σ3 H3 G3 s3 o4
          exact ⟨ρ2, G3, o4, (s1.trans g2.gg).trans s3, q1.grow (g2.gg.trans s3)⟩
        | rt d => simp only [e2] at q1; exact q1
        | bad => simp only [e2] at q1; exact q1.elim
/-! ### comprehensions -/
def compL (g : PyData → En → Option En) (ft : En → Option Bool) (fe : En → Option PyData) (ρ : En) : List PyData → Option (List PyData)
  | [] => some []
  | d :: r => (g d ρ).bind fun ρ1 => (ft ρ1).bind fun b => if b = true then (fe ρ1).bind fun x => (compL g ft fe ρ r).map (x :: ·) else compL g ft fe ρ r
def fComp (vs : List Nat) (fi : En → Option (List PyData)) (g : PyData → En → Option En) (ft : En → Option Bool) (fe : En → Option PyData) : En → Option PyData := fun ρ => (fi ρ).bind fun ds => (compL g ft fe (wipeE ρ vs) ds).map .list
def fYes : En → Option Bool := fun _ => some true
theorem re_comp {K : PySem.W.Frag} {vs : List Nat} {wi : TI} {fi : En → Option (List PyData)} {tgt : TG} {g : PyData → En → Option En} (hi : RI K m wi fi) (hg : RG K m tgt g) (hw : ∀ (Q : L2.St → Hp → Prop) v σ H, tgt v (L2.wipe σ vs) H Q → tgt v (L2.wipe σ vs) H fun σ' H' => L2.wipe σ' vs = L2.wipe σ vs ∧ Q σ' H')
    (ht : RT K m tt ft) (he : RE K m te fe) : RE K m (tLc wi tgt tt te vs) (fComp vs fi g ft fe) := by
  intro H0 G0 σ ρ H G Q d o h q
  unfold fComp at h
  cases z : fi ρ with
  | none => rw [z] at h; cases h
  | some ds =>
    rw [z] at h
    cases z2 : compL g ft fe (wipeE ρ vs) ds with
    | none => simp only [Option.bind_some, z2] at h; cases h
    | some all =>
      simp only [Option.bind_some, z2] at h
      cases h
      refine hi H0 G0 σ ρ H G _ ds o z fun J H1 G1 g1 gv hsz D hD => ?_
      obtain ⟨Gd, Y, w, hGd, hY⟩ := gv.ex
      have o1 := o.grow g1
      have hDG : G1 D = none := o1.gh.free hD
      refine lc_it w (fun i H => ∃ G acc out rest, Gr H1 G1 H G ∧ G D = none ∧ H D = some (.lst acc) ∧ RpAll K G acc out ∧ compL g ft fe (wipeE ρ vs) (ds.drop i) = some rest ∧ out ++ rest = all ∧ out.length ≤ i) ?_ ?_ ?_ ?_
      · exact ⟨G1, [], [], all, Gr.hid o1.gh hD, hDG, upd_same, .nil, z2, rfl, Nat.le_refl _⟩
      · rintro i H' _ ⟨G', acc, out, rest, gr, _⟩
        exact hGd H' G' gr.gg gr.gh
      · rintro i x H' H'' hlt ⟨G', acc, out, rest, gr, gD, hacc, racc, hrest, hall, hol⟩ y
        have hd : ds[i]? = some ds[i] := List.getElem?_eq_getElem hlt
        obtain ⟨G2, gr2, rx⟩ := hY i H' G' x H'' ds[i] gr.gg gr.gh y hd
        rw [List.drop_eq_getElem_cons hlt] at hrest
        simp only [compL] at hrest
        have ow : Ok K H0 G0 m (L2.wipe σ vs) (wipeE ρ vs) H'' G2 := ((o1.wipe vs).grow gr).grow gr2
        have keepD : ∀ {H3 G3 : Hp}, Gr H'' G2 H3 G3 → G3 D = none ∧ H3 D = some (.lst acc) := fun {H3 G3} g3 => by
          have e1 : H'' D = some (.lst acc) := gr2.hh _ _ hacc
          have e0 : G2 D = none := by
            cases q : G2 D with
            | none => rfl
            | some ob =>
              rcases gr2.nw D ob q with z | z
              · rw [gD] at z; cases z
              · rw [hacc] at z; cases z
          refine ⟨?_, g3.hh _ _ e1⟩
          cases q : G3 D with
          | none => rfl
          | some ob =>
            rcases g3.nw D ob q with z | z
            · rw [e0] at z; cases z
            · rw [e1] at z; cases z
        cases e1 : g ds[i] (wipeE ρ vs) with
        | none => rw [e1] at hrest; cases hrest
        | some ρ1 =>
          rw [e1] at hrest
          simp only [Option.bind_some] at hrest
          cases e2 : ft ρ1 with
          | none => rw [e2] at hrest; cases hrest
          | some b =>
            rw [e2] at hrest
            simp only [Option.bind_some] at hrest
            refine hw _ x σ H'' (hg H0 G0 _ _ H'' G2 x ds[i] ρ1 _ ow rx e1 fun σ2 o3 => ?_)
            refine ht H0 G0 σ2 ρ1 H'' G2 _ b o3 e2 fun H3 G3 g3 => ?_
            have o4 := o3.grow g3
            cases b with
            | false =>
              rw [if_neg Bool.false_ne_true] at hrest ⊢
              obtain ⟨k1, k2⟩ := keepD g3
              exact ⟨G3, acc, out, rest, (gr.trans gr2).trans g3, k1, k2, (racc.mono gr2.gg).mono g3.gg, hrest, hall, by omega⟩
            | true =>
              rw [if_pos rfl] at hrest ⊢
              cases e3 : fe ρ1 with
              | none => rw [e3] at hrest; cases hrest
              | some dx =>
                rw [e3] at hrest
                simp only [Option.bind_some] at hrest
                cases e4 : compL g ft fe (wipeE ρ vs) (ds.drop (i + 1)) with
                | none => rw [e4] at hrest; cases hrest
                | some more =>
                  rw [e4] at hrest
                  cases hrest
                  refine he H0 G0 σ2 ρ1 H3 G3 _ dx o4 e3 fun v H4 G4 g4 r4 => ?_
                  obtain ⟨k1, k2⟩ := keepD (g3.trans g4)
                  have racc' := ((racc.mono gr2.gg).mono g3.gg).mono g4.gg
                  have hlen := racc.length
                  refine ⟨acc, k2, by omega, G4, acc ++ [v], out ++ [dx], more, ?_, k1, upd_same, racc'.snoc r4, rfl, by rw [← hall]; simp, by simp; omega⟩
                  exact (((gr.trans gr2).trans g3).trans g4).mut hD k1
      · rintro H' ⟨G', acc, out, rest, gr, gD, hacc, racc, hrest, hall, hol⟩
        rw [List.drop_length] at hrest
        cases hrest
        rw [List.append_nil] at hall
        subst hall
        have gs := gr.show hD gD hacc
        exact q _ H' _ (g1.trans gs) (.lst upd_same (racc.mono (same_upd gD)))
/-- a target of the block's own names -/
def WOk (vs : List Nat) (g : TG) : Prop := ∀ (Q : L2.St → Hp → Prop) v σ0 σ H, L2.wipe σ0 vs = L2.wipe σ vs → g v σ0 H Q → g v σ0 H fun σ' H' => L2.wipe σ' vs = L2.wipe σ vs ∧ Q σ' H'
def WOks (vs : List Nat) (g : TGs) : Prop := ∀ (Q : L2.St → Hp → Prop) v σ0 σ H, L2.wipe σ0 vs = L2.wipe σ vs → g v σ0 H Q → g v σ0 H fun σ' H' => L2.wipe σ' vs = L2.wipe σ vs ∧ Q σ' H'
theorem wipe_set {σ : L2.St} {vs : List Nat} {i : Nat} {o : Option V} (h : i ∈ vs) : L2.wipe (σ.set i o) vs = L2.wipe σ vs := by
  revert i o σ
  induction vs with
  | nil => intro σ i o h; cases h
  | cons w ws ih =>
    intro σ i o h
    show (L2.wipe (σ.set i o) ws).set w none = (L2.wipe σ ws).set w none
    by_cases hi : i ∈ ws
    · rw [ih hi]
    · have hw : i = w := by
        rcases List.mem_cons.mp h with z | z
        · exact z
        · exact absurd z hi
      subst hw
      have comm : ∀ us : List Nat, i ∉ us → L2.wipe (σ.set i o) us = (L2.wipe σ us).set i o := by
        intro us
        induction us with
        | nil => intro _; rfl
        | cons u us ihu =>
          intro hn
          show (L2.wipe (σ.set i o) us).set u none = ((L2.wipe σ us).set u none).set i o
          rw [ihu (fun z => hn (List.mem_cons_of_mem _ z)), List.set_comm _ _ (fun z => hn (by rw [z]; exact List.mem_cons_self))]
      rw [comm ws hi, List.set_set]
theorem wipe_idem (σ : L2.St) (vs : List Nat) : L2.wipe (L2.wipe σ vs) vs = L2.wipe σ vs := by
  have key : ∀ (us : List Nat), (∀ w ∈ us, w ∈ vs) → L2.wipe (L2.wipe σ us) vs = L2.wipe σ vs := by
    intro us
    induction us with
    | nil => intro _; rfl
    | cons w ws ih =>
      intro h
      show L2.wipe ((L2.wipe σ ws).set w none) vs = L2.wipe σ vs
      rw [wipe_set (h w List.mem_cons_self)]
      exact ih fun w hw => h w (List.mem_cons_of_mem _ hw)
  exact key vs fun _ h => h
theorem wok_n {i : Nat} {vs : List Nat} (h : i ∈ vs) : WOk vs (gName i) := fun Q v σ0 σ H e q => ⟨by rw [wipe_set h]; exact e, q⟩
theorem woks_0 {vs : List Nat} : WOks vs gNil := fun Q v σ0 σ H e q => ⟨q.1, e, q.2⟩
theorem gName_mono {i : Nat} {Q Q' : L2.St → Hp → Prop} {v : V} {σ : L2.St} {H : Hp} (h : gName i v σ H Q) (k : ∀ σ H, Q σ H → Q' σ H) : gName i v σ H Q' := k _ _ h
theorem woks_c {i : Nat} {vs : List Nat} {u : TGs} (h : i ∈ vs) (hu : WOks vs u) : WOks vs (gCons (gName i) u) := by
  rintro Q v σ0 σ H e ⟨v1, r, rfl, q⟩
  exact ⟨v1, r, rfl, hu Q r _ σ H (by rw [wipe_set h]; exact e) q⟩
theorem wok_t {K : PySem.W.Frag} {n : Nat} {vs : List Nat} {u : TGs} (hu : WOks vs u) : WOk vs (gTup K n u) := by
  rintro Q v σ0 σ H e ⟨a, xs, rfl, h1, h2, q⟩
  exact ⟨a, xs, rfl, h1, h2, hu Q xs σ0 σ H e q⟩
structure PDTs (X : Cx) (m : Mk) (ifs : List Expr) (t : TT) (f : En → Option Bool) : Prop where
  p : PTs X ifs t
  r : RT X.K m t f
theorem pd_if0 : PDTs X m [] tYes fYes := ⟨pts_nil, fun H0 G0 σ ρ H G Q b o h q => by
  cases h
  exact q H G (.of o)⟩
theorem pd_if1 (h : PDT X m c tt ft) : PDTs X m [c] tt ft := ⟨pts_one h.p, h.r⟩
section
variable {elt iter : Expr} {ifs : List Expr} {scope : Scope} {own : List (Str × Nat)} {wi : TI} {fi : En → Option (List PyData)} {tgt : TG} {gf : PyData → En → Option En}
theorem pd_lc (own : List (Str × Nat)) (hc : X.calm = true) (hN : X.N.Nodup) (hi : PDI X m tg iter wi fi) (ok : BlkOk X.N X.env.scope scope own) (hw : WOk (own.map (·.2)) tgt)
    (hg : ∀ (s : Shared) (H : Hp) (C : Addr) (cl : List (Str × Addr)) (fp : List Addr), PDG (X.blk s H scope (compEnvC scope cl C X.env) fp) m tg tgt gf)
    (ht : ∀ (s : Shared) (H : Hp) (C : Addr) (cl : List (Str × Addr)) (fp : List Addr), PDTs (X.blk s H scope (compEnvC scope cl C X.env) fp) m ifs tt ft)
    (he : ∀ (s : Shared) (H : Hp) (C : Addr) (cl : List (Str × Addr)) (fp : List Addr), PDE (X.blk s H scope (compEnvC scope cl C X.env) fp) m elt te fe)
    (hs : ∀ x, foldedSetIterable iter X.env x = pure x := by intro _; rfl) :
    PDE X m (.ListComp elt [⟨tg, iter, ifs, 0⟩] scope pos) (tLc wi tgt tt te (own.map (·.2))) (fComp (own.map (·.2)) fi gf ft fe) :=
  ⟨pe_lc hc hN hi.p ok (fun s H C cl fp => (hg s H C cl fp).p) (fun s H C cl fp => (ht s H C cl fp).p) (fun s H C cl fp => (he s H C cl fp).p) hs,
    re_comp hi.r (hg X.s_0 X.H_0 0 [] []).r (fun Q v σ H q => hw Q v _ σ H (wipe_idem σ _) q) (ht X.s_0 X.H_0 0 [] []).r (he X.s_0 X.H_0 0 [] []).r⟩
/-- y = [..] on one line, y a plain local -/
theorem pd_setLc (i : Nat) (own : List (Str × Nat)) {y : Str} {py spos : Pos} (hc : X.calm = true) (hN : X.N.Nodup) (hi : PDI X m tg iter wi fi) (ok : BlkOk X.N X.env.scope scope own) (hw : WOk (own.map (·.2)) tgt)
    (hg : ∀ (s : Shared) (H : Hp) (C : Addr) (cl : List (Str × Addr)) (fp : List Addr), PDG (X.blk s H scope (compEnvC scope cl C X.env) fp) m tg tgt gf)
    (ht : ∀ (s : Shared) (H : Hp) (C : Addr) (cl : List (Str × Addr)) (fp : List Addr), PDTs (X.blk s H scope (compEnvC scope cl C X.env) fp) m ifs tt ft)
    (he : ∀ (s : Shared) (H : Hp) (C : Addr) (cl : List (Str × Addr)) (fp : List Addr), PDE (X.blk s H scope (compEnvC scope cl C X.env) fp) m elt te fe)
    (hsw : swapsWith (.ListComp elt [⟨tg, iter, ifs, 0⟩] scope pos) (some (.Name y py)) spos.line X.env = pure true)
    (hs : ∀ x, foldedSetIterable iter X.env x = pure x := by intro _; rfl) (hy : X.N[i]? = some y := by rfl) (hyl : X.env.scope.names.lookup y = some .local := by rfl) (hk : kd m i = .val := by rfl) :
    PDS X m m (.Assign [.Name y py] (.ListComp elt [⟨tg, iter, ifs, 0⟩] scope pos) spos) (tAsg (tLc wi tgt tt te (own.map (·.2))) (gName i)) (fAsg (fComp (own.map (·.2)) fi gf ft fe) (gN i)) :=
  ⟨ps_setLc hc hN hy hyl hsw hi.p ok (fun s H C cl fp => (hg s H C cl fp).p) (fun s H C cl fp => (ht s H C cl fp).p) (fun s H C cl fp => (he s H C cl fp).p) hs,
    rs_asg (re_comp hi.r (hg X.s_0 X.H_0 0 [] []).r (fun Q v σ H q => hw Q v _ σ H (wipe_idem σ _) q) (ht X.s_0 X.H_0 0 [] []).r (he X.s_0 X.H_0 0 [] []).r) (rg_name hk)⟩
end
/-! ### calls of defs -/
def spP (K : PySem.W.Frag) (F : List PyData → Option PyData) : Sp := fun vs H Q _ => ∃ G ds d, Same G H ∧ RpAll K G vs ds ∧ F ds = some d ∧ Wnt K H G d Q
theorem pd_call {k : Nat} {fa : Addr} {fd : FuncData} {ps : List Str} {F : List PyData → Option PyData} {x : Str} {es : List Expr} {ta : TA} {fl : En → Option (List PyData)} {p : Pos} (Fn : FnOk X.prog X.w X.K X.mg X.base CX0 k fa fd ps (spP X.K F)) (hr : Room k X.A)
    (hm : X.mg x = some (.ref fa)) (hk : PySem.W.keepIn X.K (.ref fa) = true) (hb : Binds X.K fd ps []) (ha : PDA X m (e :: es) ta fl) (hg : Gl X x := by rfl) (hdb : (x == ("__debug__" : Str)) = false := by decide)
    (he : starEach (e :: es) X.env = (false, eval e X.env) :: starEach es X.env := by rfl) (hpl : (backTo pos (starEach es X.env)).any (·.1) = false := by rfl) :
    PDE X m (.Call (.Name x p) (e :: es) [] pos) (tCall (spP X.K F) [] E0 ta) (fL F fl) := by
  refine ⟨pe_call Fn hr hg hm hk hb .nil pass0 ha.p hdb he hpl, fun H0 G0 σ ρ H G Q d o h q => ?_⟩
  obtain ⟨ds, e1, e2⟩ := fL_some h
  refine ha.r H0 G0 σ ρ H G _ ds o e1 fun vs H1 G1 g1 r1 => ?_
  rw [List.append_nil]
  exact ⟨G1, ds, d, g1.gh, r1, e2, q.grow g1⟩
/-! ### a def by its body -/
def runB (n k : Nat) (fb : En → Out) (ds : List PyData) : Option PyData :=
  if ds.length = n then (match fb (ds.map some ++ List.replicate (k - n) none) with
    | .rt d => some d
    | .nx _ => some .none
    | .bad => none) else none
theorem ok_start {K : PySem.W.Frag} {H G : Hp} {N : List Str} {vs : List V} {ds : List PyData} (s : Same G H) (r : RpAll K G vs ds) : Ok K H G [] (L2.start N vs) (ds.map some ++ List.replicate (N.length - ds.length) none) H G := by
  have hl := r.length
  refine ⟨Gr.refl s, fun i d h => ?_, fun i j p d e _ h => absurd rfl h, by simp [L2.start, hl]⟩
  have hi : i < ds.length := by
    by_cases z : i < ds.length
    · exact z
    · rw [List.getElem?_append_right (by simp; omega)] at h
      rw [List.getElem?_replicate] at h
      split at h <;> simp at h
  rw [List.getElem?_append_left (by simpa using hi), List.getElem?_map] at h
  cases q : ds[i]? with
  | none => rw [q] at h; cases h
  | some d' =>
    rw [q] at h
    cases h
    obtain ⟨v, h1, h2⟩ := r.get q
    refine ⟨v, ?_, h2⟩
    unfold L2.start
    rw [List.getElem?_append_left (by simp; omega), List.getElem?_map, h1]
    rfl
theorem fn_ok {P : Program} {w : World} {K : PySem.W.Frag} {mg : Str → Option Value} {base : Heap} {x qual : Str} {st : Stmt} {fa : Addr} {fd : FuncData} {N ps : List Str} {k : Nat} {fb : En → Out} (F : Fun K x qual st fa fd) (S : FnScope N ps (defScope st))
    (body : ∀ (cdv : Value) (A : Around) (outer : List Env) (s : Shared) (H : Hp) (E : XK), Room k (A.deeper (envOfC qual (defScope st) s.heap.objs.size fa cdv)) →
      ∃ m' t, PDB (cxOf CX0 P w K mg base N qual (defScope st) fa cdv A outer s H E).nox [] m' (defBody st) t fb) : FnOk P w K mg base CX0 (k + 1) fa fd ps (spP K (runB ps.length N.length fb)) := by
  refine F.ok S (fun vs H Q E h => ?_) (fun cdv A outer s H vs Q E hr h => ?_)
  · obtain ⟨G, ds, d, _, r, e, _⟩ := h
    unfold runB at e
    split at e
    · rw [r.length]
      assumption
    · cases e
  · obtain ⟨G, ds, d, sm, r, e, q⟩ := h
    obtain ⟨m', t, hb⟩ := body cdv A outer s H E hr
    refine ⟨t, hb.p, ?_⟩
    unfold runB at e
    split at e
    · rename_i hl
      have hs := ok_start (N := N) sm r
      rw [hl] at hs
      refine hb.r H G _ _ _ H G hs ?_
      cases z : fb (ds.map some ++ List.replicate (N.length - ps.length) none) with
      | nx ρ' =>
        rw [z] at e
        cases e
        intro σ' H' G' s' o'
        exact q .non H' G' o'.gr .non
      | rt d' =>
        rw [z] at e
        cases e
        exact fun v H' G' g r => q v H' G' g r
      | bad => rw [z] at e; cases e
    · cases e
end
end Tl

/-! enumerate of a tuple, of a list. -/
namespace Tl
open PySem PySem.Spec PyProof.Rows L2
theorem enum_newT (l : Addr) (items : Array Value) (n : Nat) (dct : Option Addr) (sl : Array (Option Value)) :
    Meets (Builtin.«enumerate.__new__» ⟨[.type "enumerate", .ref l], []⟩) (fun _ R s => s.heap.get? l = some ⟨.type "tuple", dct, .seq items n, sl⟩ ∧
      R (.ok (.ret (.ref (s.heap.push { cls := .type "tuple_iterator", data := .fields #[.ref l, .int 0 0] }).objs.size)))
        { s with heap := (s.heap.push { cls := .type "tuple_iterator", data := .fields #[.ref l, .int 0 0] }).push { cls := .type "enumerate", data := .fields #[.none, .bool false, .ref s.heap.objs.size, rawInt 0, .none, .none] } }) := by
  refine .of_wp fun prog w A R s h => ?_
  obtain ⟨hp, g, d, tk, os⟩ := s
  obtain ⟨hl, h⟩ := h
  have sub := sub_enumerate
  have hT : Heap.IsTuple (Shared.heap ⟨hp, g, d, tk, os⟩) l items := ⟨_, hl, rfl, n, rfl⟩
  have it : ∀ {A' : Around} {E : Value → Shared → Prop} {Q : Value → Shared → Prop}, Q (.ref hp.objs.size) ⟨hp.push { cls := .type "tuple_iterator", data := .fields #[.ref l, .int 0 0] }, g, d, tk, os⟩ → wpAny (model prog w) A' (pyIter (.ref l)) Q E ⟨hp, g, d, tk, os⟩ :=
    fun q => wpAny_pyIter_tuple hT q
  wp_walk using it
  refine wpAny_stack_any fun st => wpAny_pure ?_
  split
  · rename_i c _ _ _ _ _
    cases (c == Value.type "enumerate") <;> (wp_walk using it; exact ⟨_, rfl, h⟩)
  · wp_walk using it
    exact ⟨_, rfl, h⟩
section
variable {prog : Program} {w : World} {A : Around} {E : Value → Shared → Prop} {s : Shared}
theorem enum_tuple {l : Addr} {items : Array Value} {Q : Value → Shared → Prop} (hL : s.heap.IsTuple l items)
    (h : ∀ h', IsEnum h' (s.heap.objs.size + 1) s.heap.objs.size 0 .none → h'.IsTupleIter s.heap.objs.size l 0 → (∀ b o, s.heap.get? b = some o → h'.get? b = some o) → Q (.ref (s.heap.objs.size + 1)) { s with heap := h' }) :
    wpAny (model prog w) A (call (.type "enumerate") [.ref l]) Q E s := by
  obtain ⟨⟨c, dct, dt, sl⟩, hl, hc, n, hd⟩ := hL
  simp only at hc hd
  subst hc hd
  refine callType_new F.called_enumerate (by decide) (F.typeCall_enumerate_1 _) (F.newCall_enumerate_1 _) (fun obj => F.args_object_init_2 obj _) F.entry_enumerate_new (enum_newT l items n dct sl) ⟨hl, ?_⟩
  generalize hh1 : s.heap.push { cls := .type "tuple_iterator", data := .fields #[.ref l, .int 0 0] } = h1
  have z1 : h1.objs.size = s.heap.objs.size + 1 := by rw [← hh1, Heap.size_push]
  have e0 : h1.get? s.heap.objs.size = some { cls := .type "tuple_iterator", data := .fields #[.ref l, .int 0 0] } := by rw [← hh1]; exact Heap.get?_push_size _ rfl
  have e1 : IsEnum (h1.push { cls := .type "enumerate", data := .fields #[.none, .bool false, .ref s.heap.objs.size, rawInt 0, .none, .none] }) (s.heap.objs.size + 1) s.heap.objs.size 0 .none := by
    rw [← z1]
    exact Heap.get?_push_size _ rfl
  show _ ∧ _
  rw [z1]
  refine ⟨⟨_, e1, rfl⟩, h _ e1 ⟨_, Heap.get?_push_of_some _ e0, rfl, rfl⟩ fun b o x => Heap.get?_push_of_some _ ?_⟩
  rw [← hh1]
  exact Heap.get?_push_of_some _ x
end
/-- the tuple at a, each item in a new pair -/
def IteT (K : PySem.W.Frag) (a : Addr) : It :=
  ⟨fun i H => ∃ (xs : List V) (x : V), SqT K H a xs ∧ xs[i]? = some x, fun i H v H' => ∃ T x, v = .ref T ∧ H T = none ∧ H' = upd H T (.tup [.int (i : Nat), x]) ∧ ∀ xs, SqT K H a xs → xs[i]? = some x, fun i H => ∃ xs : List V, SqT K H a xs ∧ xs.length = i⟩
theorem turn_enumT {P : Program} {w : World} {K : PySem.W.Frag} {elts : List Expr} {kk : Nat} {tpos : Pos} (a e it : Addr) (hne : e ≠ it) (hia : a ≠ it) (hea : e ≠ a) :
    Turn P w K (.Tuple elts kk tpos) (IteT K a) [e, it] e (fun i h => (∃ old, IsEnum h e it ((i : Nat) : Int) old) ∧ h.IsTupleIter it a i) where
  mem := by simp
  obj := fun i h st b hb => by
    obtain ⟨⟨old, he⟩, ⟨o, ho, hc, hd⟩⟩ := st
    have e' : b = e ∨ b = it := by simpa using hb
    rcases e' with z | z
    · subst z
      exact ⟨_, he, fun v q => nomatch q⟩
    · exact ⟨o, by rw [z]; exact ho, fun v q => by rw [hd] at q; cases q⟩
  keep := fun i h h' st k => let ⟨⟨old, he⟩, hi⟩ := st; ⟨⟨old, k e (by simp) _ he⟩, hi.at fun o q => k it (by simp) o q⟩
  item := by
    intro X hP hw hK hc i pins s σ H E I hf st hg
    subst hP hw hK
    obtain ⟨⟨old, he⟩, hit⟩ := st
    obtain ⟨xs, x, hq, hx⟩ := hg
    obtain ⟨its, rv, p, hz⟩ := I.tuple hq
    obtain ⟨u, hu, ru⟩ := rv.get hx
    have hel : e < s.heap.objs.size := Heap.lt_size he
    have hil : it < s.heap.objs.size := by obtain ⟨_, q, _⟩ := hit; exact Heap.lt_size q
    have hlt : i < its.toArray.size := by
      have := (List.getElem?_eq_some_iff.mp hu).1
      simpa using this
    refine wpAny_pyNext_enum_itemD (Draws.tuple (by exact I.ok.hd hc) it a hia its.toArray) he ⟨hit, p⟩ hlt hne (by simp [hne, hea]) fun v h' tk hv ho hst hT hsz hk => ?_
    have huv : v = u := by
      have q : its.toArray[i]? = some u := by simpa using hu
      rw [q] at hv
      exact (Option.some.inj hv).symm
    subst huv
    refine ⟨_, rfl, wpAny_letOwnedTupleGo_enum (s := { s with heap := h', toks := tk + 1 }) ho fun h'' he' sb => ?_⟩
    have hT2 : h''.get? s.heap.objs.size = some { cls := .type "tuple", data := .seq #[.int i tk, v] } := (sb.2 _ (Nat.ne_of_gt hel)).trans hT
    have new : ObjOk X.prog X.w (upd H s.heap.objs.size (.tup [.int (i : Nat), x])) h'' s.heap.objs.size (.tup [.int (i : Nat), x]) :=
      ⟨by show 2 ≤ sizeLine; decide, [.int i tk, v], .cons ⟨_, rfl⟩ (.cons ru .nil), ⟨_, hT2, rfl, _, rfl⟩⟩
    have I1 : Inv X pins σ (upd H s.heap.objs.size (.tup [.int (i : Nat), x])) { s with heap := h'', toks := tk + 1 } :=
      I.turnedNew (ch := [e, it]) (fun b ob hb q => (sb.2 b (fun z => hb (by simp [z]))).trans (hk b ob (fun z => hb (by simp [z])) (fun z => hb (by simp [z])) q)) hf (Nat.le_refl _) new
    refine ⟨.ref s.heap.objs.size, _, I1, rfl, ⟨_, x, rfl, I.hok.fresh (Nat.le_refl _), rfl, fun ys hy => by rw [I.tuple_inj hy hq]; exact hx⟩, ⟨⟨v, ?_⟩, hst.1.at fun o q => (sb.2 it (Ne.symm hne)).trans q⟩, fun b hb => ?_⟩
    · have e1 : ((i + 1 : Nat) : Int) = (i : Int) + 1 := by omega
      rw [e1]
      exact he'
    · have hb' : b < s.heap.objs.size := by
        have e' : b = e ∨ b = it := by simpa using hb
        rcases e' with z | z
        · rw [z]; exact hel
        · rw [z]; exact hil
      rw [upd_ne (Nat.ne_of_lt hb')]
      exact (hf b hb).1
  done := by
    intro X hP hw hK hc i pins s σ H E I hf st hg
    subst hP hw hK
    obtain ⟨⟨old, he⟩, hit⟩ := st
    obtain ⟨xs, hq, hx⟩ := hg
    obtain ⟨its, rv, p, hz⟩ := I.tuple hq
    obtain ⟨f0, f1, f2, f3, f4, f5⟩ := hf it (by simp)
    have hl := rv.length
    have hi : i = its.toArray.size := by simp; omega
    subst hi
    exact wpAny_pyNext_enum_endD (Draws.tuple (by exact I.ok.hd hc) it a hia its.toArray) he ⟨hit, p⟩ fun h' eb => ⟨rfl, I.turned (t' := s.toks) (fun b o hb q => eb b o hb q) f0 f1 f3 f4 f5⟩
  self := fun A i s Q E st h => let ⟨⟨_, he⟩, _⟩ := st; wpAny_pyIter_enum he h
theorem walk_enumT {K : PySem.W.Frag} {a : Addr} {xs : List V} : Walk (IteT K a) xs.length (fun H => SqT K H a xs) (YPair (fun i => some (.int (i : Nat))) (fun i => xs[i]?)) := by
  refine ⟨fun i _ hi q => ⟨xs, xs[i], q, by simp [hi]⟩, fun _ q => ⟨xs, q, rfl⟩, fun i H v H' _ q y => ?_⟩
  obtain ⟨T, x, h1, h2, h3, h4⟩ := y
  exact ⟨T, .int (i : Nat), x, h1, h2, h3, rfl, h4 xs q⟩
section
variable {X : Cx} {m : Mk} {e : Expr} {pos : Pos}
def iEnumA (K : PySem.W.Frag) (ta : TA) : TI := fun σ H R => ta σ H fun vs H1 => ∃ a xs, vs = [.ref a] ∧ ((SqL K H1 a xs ∧ (xs.length ≤ sizeLine → R (Ite K a) H1)) ∨ (SqT K H1 a xs ∧ (xs.length ≤ sizeLine → R (IteT K a) H1)))
/-- the pairs of places and items -/
def enumL : Nat → List PyData → List PyData
  | _, [] => []
  | n, d :: r => .tuple [.int n, d] :: enumL (n + 1) r
theorem enumL_len : ∀ (n : Nat) (ds : List PyData), (enumL n ds).length = ds.length
  | _, [] => rfl
  | n, d :: r => by simp [enumL, enumL_len (n + 1) r]
theorem enumL_get : ∀ (ds : List PyData) (n i : Nat), (enumL n ds)[i]? = (ds[i]?).map fun d => PyData.tuple [.int ((n + i : Nat) : Int), d]
  | [], n, i => by simp [enumL]
  | d :: r, n, 0 => by simp [enumL]
  | d :: r, n, i + 1 => by
    simp only [enumL, List.getElem?_cons_succ]
    rw [enumL_get r (n + 1) i]
    congr 1
    funext x
    rw [show n + 1 + i = n + (i + 1) by omega]
def fEnum (fl : En → Option (List PyData)) : En → Option (List PyData) := fun ρ => (fl ρ).bind fun ds => match ds with
  | [d] => (itemsOf d).map (enumL 0)
  | _ => none
theorem gives_pairs {K : PySem.W.Frag} {J : It} {G1 : Hp} {xs : List V} {ds : List PyData} {Gd : Hp → Prop} (w : Walk J xs.length Gd (YPair (fun i => some (.int (i : Nat))) (fun i => xs[i]?))) (hG : ∀ H' G', Same G1 G' → Same G' H' → Gd H') (r : RpAll K G1 xs ds) : Gives K J G1 (enumL 0 ds) := by
  have hl := r.length
  refine ⟨⟨Gd, _, by rw [enumL_len, ← hl]; exact w, hG, fun i H' G' x H'' d s1 s2 y hd => ?_⟩⟩
  obtain ⟨T, v1, v2, rfl, hT, rfl, h1, h2⟩ := y
  cases h1
  obtain ⟨d2, e1, r2⟩ := r.getV h2
  rw [enumL_get, e1] at hd
  have hd' : PyData.tuple [.int ((0 + i : Nat) : Int), d2] = d := by simpa using hd
  subst hd'
  rw [Nat.zero_add]
  have g2 : Gr H' G' (upd H' T (.tup [.int (i : Nat), v2])) (upd G' T (.tup [.int (i : Nat), v2])) := Gr.new s2 hT
  exact ⟨_, g2, .tup (SqT.of upd_same) (.cons (.int _) (.cons ((r2.mono s1).mono g2.gg) .nil))⟩
theorem pi_e {te : TE} {fe : En → Option PyData} {p tpos : Pos} {elts : List Expr} {kk : Nat} (hm : X.mg "enumerate" = none) (he : PDE X m e te fe) (hg : Gl X "enumerate" := by rfl) (hs : starEach [e] X.env = (false, eval e X.env) :: starEach [] X.env := by rfl) (hs1 : starEach [e] X.env = [(false, eval e X.env)] := by rfl) :
    PDI X m (.Tuple elts kk tpos) (.Call (.Name "enumerate" p) [e] [] pos) (iEnumA X.K (tCons te tNil)) (fEnum (fA fe fA0)) := by
  have ha := pd_a he pd_a0 hs
  refine ⟨⟨fun pins s σ H R I h => ?_⟩, fun H0 G0 σ ρ H G R ds o h q => ?_⟩
  · -- the kind is known behind the argument alone: both ways by the argument's own run
    refine Call_ (ld_blt I hg hm boot_enumerate (PyProof.Rows.callWith_type1 (thn (ha.p.run pos pins s σ H _ I h) fun us s1 ⟨vs, H1, I1, r1, q1⟩ => ?_) hs1 rfl))
    obtain ⟨a, xs, ex, hq⟩ := q1
    subst ex
    cases r1 with
    | cons r rr =>
      cases rr
      cases r
      rcases hq with ⟨hq, q⟩ | ⟨hq, q⟩
      · obtain ⟨its, rv, p', hz⟩ := I1.list hq
        refine call_enumerate_list p'.isList fun h' he hit hsz hk => wpAny_pyIter_enum he ?_
        have I2 : Inv X pins σ H1 { s1 with heap := h' } := I1.kept (t' := s1.toks) hk
        refine ⟨s1.heap.objs.size + 1, [s1.heap.objs.size + 1, s1.heap.objs.size], _, _, H1, rfl, I2, turn_enum a (s1.heap.objs.size + 1) s1.heap.objs.size, ⟨⟨.none, he⟩, hit, Nat.succ_ne_self _⟩, fun b hb => ?_, q hz⟩
        have hle : s1.heap.objs.size ≤ b := by
          have e' : b = s1.heap.objs.size + 1 ∨ b = s1.heap.objs.size := by simpa using hb
          rcases e' with z | z
          · rw [z]; exact Nat.le_add_right _ _
          · rw [z]; exact Nat.le_refl _
        exact I1.fpOk hle (I1.hok.fresh hle)
      · obtain ⟨its, rv, p', hz⟩ := I1.tuple hq
        have hal : a < s1.heap.objs.size := IsTup.lt p'
        refine enum_tuple p' fun h' he hit hk => wpAny_pyIter_enum he ?_
        have I2 : Inv X pins σ H1 { s1 with heap := h' } := I1.kept (t' := s1.toks) hk
        refine ⟨s1.heap.objs.size + 1, [s1.heap.objs.size + 1, s1.heap.objs.size], _, _, H1, rfl, I2, turn_enumT a (s1.heap.objs.size + 1) s1.heap.objs.size (Nat.succ_ne_self _) (Nat.ne_of_lt hal) (Nat.ne_of_gt (Nat.lt_succ_of_lt hal)), ⟨⟨.none, he⟩, hit⟩, fun b hb => ?_, q hz⟩
        have hle : s1.heap.objs.size ≤ b := by
          have e' : b = s1.heap.objs.size + 1 ∨ b = s1.heap.objs.size := by simpa using hb
          rcases e' with z | z
          · rw [z]; exact Nat.le_add_right _ _
          · rw [z]; exact Nat.le_refl _
        exact I1.fpOk hle (I1.hok.fresh hle)
  · unfold fEnum at h
    cases z : fA fe fA0 ρ with
    | none => rw [z] at h; cases h
    | some es =>
      rw [z] at h
      refine ha.r H0 G0 σ ρ H G _ es o z fun vs H1 G1 g1 r1 => ?_
      match es, h, r1 with
      | [d], h, r1 =>
        obtain ⟨v, rfl, rv⟩ := r1.one
        have h' : (itemsOf d).map (enumL 0) = some ds := h
        cases z3 : itemsOf d with
        | none => rw [z3] at h'; cases h'
        | some xs =>
          rw [z3] at h'
          cases h'
          obtain ⟨pa, zs, rfl, hb, hz⟩ := items_rp rv z3
          have hl := hz.length
          refine ⟨pa, zs, rfl, ?_⟩
          rcases hb with hb | hb
          · exact .inl ⟨g1.gh.seq hb, fun hsz => q _ H1 G1 g1 (gives_pairs walk_enum (fun H' G' s1 s2 => (s1.trans s2).seq hb) hz) (by rw [enumL_len]; omega)⟩
          · exact .inr ⟨sqt_mono g1.gh hb, fun hsz => q _ H1 G1 g1 (gives_pairs walk_enumT (fun H' G' s1 s2 => sqt_mono (s1.trans s2) hb) hz) (by rw [enumL_len]; omega)⟩
      | [], h, _ => cases h
      | _ :: _ :: _, h, _ => cases h
end
end Tl

/-! Odds and ends for printed proofs. -/
namespace Tl
open PySem PySem.Spec PyProof.Rows L2
/-- a constant of the module, as data -/
def GC (K : PySem.W.Frag) (mg : Str → Option Value) (x : Str) (d : PyData) : Prop := ∃ v u, mg x = some u ∧ RelV v u ∧ ∀ G, Rp K G v d
theorem gc_str {K : PySem.W.Frag} {mg : Str → Option Value} {x z : Str} {t : Tok} (h : mg x = some (.str z t)) : GC K mg x (.str z) := ⟨.str z, _, h, ⟨t, rfl⟩, fun _ => .str z⟩
theorem gc_int {K : PySem.W.Frag} {mg : Str → Option Value} {x : Str} {z : Int} {t : Tok} (h : mg x = some (.int z t)) : GC K mg x (.int z) := ⟨.int z, _, h, ⟨t, rfl⟩, fun _ => .int z⟩
/-- a tuple of three texts -/
theorem gc_tup3 {K : PySem.W.Frag} {mg : Str → Option Value} {x a b c : Str} {t u w : Tok} {p : Addr} {o : Obj} {n : Nat} (h : mg x = some (.ref p)) (l : K.lookup p = some o) (hc : o.cls = .type "tuple") (hd : o.data = .seq #[.str a t, .str b u, .str c w] n) :
    GC K mg x (.tuple [.str a, .str b, .str c]) :=
  ⟨.ref p, _, h, rfl, fun G => .tup (xs := [.str a, .str b, .str c]) (.inr ⟨o, _, n, l, hc, hd, by show 3 ≤ sizeLine; decide, .cons ⟨t, rfl⟩ (.cons ⟨u, rfl⟩ (.cons ⟨w, rfl⟩ .nil))⟩) (.cons (.str a) (.cons (.str b) (.cons (.str c) .nil)))⟩
theorem fn_none {P : Program} {w : World} {K : PySem.W.Frag} {mg : Str → Option Value} {base : Heap} {k : Nat} {f : Addr} {fd : FuncData} {ps : List Str} : FnOk P w K mg base CX0 k f fd ps (spP K fun _ => none) :=
  have no : ∀ vs H Q E, ¬ spP K (fun _ => none) vs H Q E := fun vs H Q E ⟨G, ds, d, _, _, e, _⟩ => by cases e
  ⟨fun vs H Q E h => absurd h (no vs H Q E), fun A outer s H args us vs Q E _ _ _ _ h => absurd h (no vs H Q E)⟩
theorem u65 {k : Nat} {A : Around} (r : Room k A) : A.units + 65 < cLine := by
  have := r.un
  omega
theorem kd_drop {m : Mk} {i : Nat} (h : kd m i = .val := by rfl) : ∀ j, kd (fz i ((i, .own) :: m)) j = kd m j := fun j => by
  rw [kd_fz]
  by_cases q : j = i
  · rw [if_pos q, q, h]
  · rw [if_neg q]
    unfold kd
    rw [List.lookup_cons]
    have : (j == i) = false := beq_eq_false_iff_ne.mpr q
    rw [this]
section
variable {X : Cx} {m : Mk} {a : Expr} {ta : TE} {fa : En → Option PyData} {pos : Pos}
theorem Wnt.bl {K : PySem.W.Frag} {H G G1 : Hp} {b : Bool} {Q : VK} (q : Wnt K H G (.bool b) Q) (h : Same G H) : Wnt K H G1 (.bool b) Q := fun v H' G' g r => by
  cases r
  exact q _ H' G ⟨g.hh, Same.refl _, h.trans g.hh, fun _ _ e => .inl e⟩ (.bl b)
/-- x (not) in a list of one's own -/
theorem re_own {K : PySem.W.Frag} {r : R2} {g : PyData → PyData → Option PyData} (hr : R2ok K r g) (hb : ∀ d e z, g d e = some z → ∃ k, z = .bool k) (i : Nat) (hk : kd m i = .own) (ha : RE K m ta fa) : RE K m (tOp r ta (tVar i)) (f2 g fa (fV i)) := by
  intro H0 G0 σ ρ H G Q d o h q
  obtain ⟨x, y, e1, e2, e3⟩ := f2_some h
  refine ha H0 G0 σ ρ H G _ x o e1 fun v H1 G1 g1 r1 => ?_
  have o1 := o.grow g1
  obtain ⟨v', h1, h2⟩ := o1.slot i y (join_some e2)
  rw [hk] at h2
  obtain ⟨p, vs, ds, rfl, rfl, e4, e5, e6, e7⟩ := h2
  obtain ⟨k, rfl⟩ := hb _ _ _ e3
  refine ⟨.ref p, h1, ?_⟩
  have sg : Same G1 (upd G1 p (.lst vs)) := same_upd e5
  have sh : Same (upd G1 p (.lst vs)) H1 := fun a' o' q' => by
    by_cases z : a' = p
    · subst z
      rw [upd_same] at q'
      rw [e4]
      exact q'
    · rw [upd_ne z] at q'
      exact g1.gh a' o' q'
  exact hr H1 (upd G1 p (.lst vs)) v (.ref p) x (.list ds) _ Q sh (r1.mono sg) (.lst upd_same (e7.mono sg)) e3 ((q.grow g1).bl g1.gh)
theorem inP_b (d e z : PyData) (h : inP d e = some z) : ∃ k, z = .bool k := by
  unfold inP at h
  cases q : inD d e with
  | none => rw [q] at h; cases h
  | some b => rw [q] at h; exact ⟨b, (Option.some.inj h).symm⟩
theorem niP_b (d e z : PyData) (h : niP d e = some z) : ∃ k, z = .bool k := by
  unfold niP at h
  cases q : inD d e with
  | none => rw [q] at h; cases h
  | some b => rw [q] at h; exact ⟨!b, (Option.some.inj h).symm⟩
theorem pdt_niOwn (i : Nat) {x : Str} {p : Pos} (hu : X.A.units + 65 < cLine) (ha : PDE X m a ta fa) (hN : X.N[i]? = some x := by rfl) (hv : Vis X.env.scope x := by first | exact Or.inl rfl | exact Or.inr (Or.inl rfl) | exact Or.inr (Or.inr rfl)) (hk : kd m i = .own := by rfl)
    (hd : (x == ("__debug__" : Str)) = false := by decide) (hcd : (x == ("__classdict__" : Str)) = false := by decide) (hm : behindInMarks .NotIn (.Name x p) = false := by rfl) :
    PDT X m (.Compare a [.NotIn] [.Name x p] pos) (tTest (tOp (rNiA X.K) ta (tVar i))) (fB (f2 niP fa (fV i))) :=
  ⟨pt_cmpR (op_niA hu) ha.p (pe_var hN hv hd hcd) hm, rt_b (re_own ni_ok niP_b i hk ha.r)⟩
end
end Tl

/-! max, min of a list; a sequence from behind; dicts that are read. -/
namespace Tl
open PySem PySem.Spec PyProof.Rows L2
/-! ### a tuple from behind, at the library's level -/
section
variable {prog : Program} {w : World} {A : Around} {E : Value → Shared → Prop} {s : Shared}
theorem rev_adjust (n : Nat) : Builtin.Slice.sliceAdjust none none (-1) (n : Int) = ((n : Int) - 1, -1) := rfl
theorem rev_places (n : Nat) : Builtin.Slice.slicePlaces ((n : Int) - 1) (-1) (-1) = n := by
  unfold Builtin.Slice.slicePlaces
  rw [if_neg (by decide)]
  by_cases h : n = 0
  · subst h
    rfl
  · rw [if_pos (by omega)]
    simp only [Int.neg_neg, Int.ediv_one]
    omega
theorem rev_pick (xs : Array Value) : ((List.range xs.size).filterMap fun (m : Nat) => xs[((xs.size : Int) - 1 + (m : Int) * (-1)).toNat]?).toArray = xs.toList.reverse.toArray := by
  congr 1
  have key : ∀ k, k ≤ xs.size → ((List.range k).filterMap fun (m : Nat) => xs[((xs.size : Int) - 1 + (m : Int) * (-1)).toNat]?) = xs.toList.reverse.take k := by
    intro k
    induction k with
    | zero => intro _; simp
    | succ k ih =>
      intro hk
      have hlt : k < xs.toList.reverse.length := by simp; omega
      rw [List.range_succ, List.filterMap_append, ih (by omega), List.take_succ_eq_append_getElem hlt]
      congr 1
      have e : ((xs.size : Int) - 1 + (k : Int) * (-1)).toNat = xs.size - 1 - k := by omega
      have h2 : xs.size - 1 - k < xs.size := by omega
      simp only [List.filterMap_cons, List.filterMap_nil, e]
      rw [Array.getElem?_eq_getElem h2]
      simp
  rw [key xs.size (Nat.le_refl _), List.take_of_length_le (by simp)]
theorem rev_applied {sl : Addr} {vs : Value} {n : Nat} {Q : Int × Int × Nat → Shared → Prop} (hs : s.heap.IsSliceOf sl .none .none vs) (ps : IsPart vs (some (-1))) (h : Q ((n : Int) - 1, -1, n) s) :
    wpAny (model prog w) A (Builtin.Slice.sliceApplied (.ref sl) (pure (n : Int))) Q E s := by
  obtain ⟨os, hos, hcs, hds⟩ := id hs
  unfold Builtin.Slice.sliceApplied Builtin.Slice.sliceFields
  refine wpAny_bind (wpAny_bind (wpAny_field hos hds (x := .none) rfl (wpAny_bind (wpAny_field hos hds (x := .none) rfl (wpAny_bind (wpAny_field hos hds (x := vs) rfl (wpAny_pure ?_)))))))
  refine wpAny_bind (HT.slicePart_ ps ?_)
  show wpAny _ _ (if ((-1 : Int) == 0) = true then _ else _) _ _ s
  rw [if_neg (by decide)]
  refine wpAny_bind (HT.slicePart_ .none (wpAny_bind (HT.slicePart_ .none (wpAny_bind (wpAny_pure ?_)))))
  show wpAny _ _ (match Builtin.Slice.sliceAdjust none none (-1) (n : Int) with | (lo, hi) => pure (lo, (-1 : Int), Builtin.Slice.slicePlaces lo hi (-1))) _ _ s
  rw [rev_adjust]
  show wpAny _ _ (pure ((n : Int) - 1, (-1 : Int), Builtin.Slice.slicePlaces ((n : Int) - 1) (-1) (-1))) _ _ s
  rw [rev_places]
  exact wpAny_pure h
theorem rev_get {t sl : Addr} {items : Array Value} {vs : Value} {Q : Value → Shared → Prop} (ht : IsTup s.heap t items) (hs : s.heap.IsSliceOf sl .none .none vs) (ps : IsPart vs (some (-1))) (hz : items.size ≤ sizeLine)
    (h : Q (.ref s.heap.objs.size) { s with heap := s.heap.push { cls := .type "tuple", data := .seq items.toList.reverse.toArray } }) : wpAny (model prog w) A (getItem (.ref t) (.ref sl)) Q E s := by
  have fits : sizeOk (.seq items.toList.reverse.toArray) := by
    show items.toList.reverse.toArray.size ≤ sizeLine
    simpa using hz
  obtain ⟨os, hos, hcs, hds⟩ := id hs
  have hT : s.TypeIs (.ref sl) "slice" := ⟨os, hos, hcs⟩
  unfold getItem
  try with_reducible refine wpAny_holding ?_
  first | refine wpAny_bind (wpAny_pure ?_) | skip
  refine wpAny_bind (wpAny_sequenceKey ht.typeIs (by decide) ?_)
  refine wpAny_bind (wpAny_callSpecial?_slot (name := Str.ofString "__getitem__") ht.typeIs slot_tuple_getitem (wpAny_call_entry slot_tuple_getitem ht.typeIs entry_tuple_getitem ?_ (args_tuple_getitem _ _)))
  show wpAny _ _ (Builtin.Tuple.tupleItemsOf (.ref t) >>= _) _ _ s
  refine wpAny_bind (tupleItemsOf_ ht (wpAny_bind (wpAny_typeOf hT ?_)))
  rw [if_pos (by decide)]
  refine wpAny_bind (rev_applied hs ps ?_)
  have no : ¬ ((((items.size : Int) - 1 == 0 && (-1 : Int) == 1 && items.size == items.size)) = true) := by simp
  show wpAny _ _ (if ((items.size : Int) - 1 == 0 && (-1 : Int) == 1 && items.size == items.size) = true then _ else _) _ _ s
  rw [if_neg no, rev_pick]
  first
    | exact wpAny_bind (m := Builtin.Tuple.tupleExact _) (wpAny_newObj_type (wpAny_pure ⟨_, rfl, wpAny_pure h⟩) fits)
    | exact wpAny_bind (m := Builtin.Tuple.tupleExact _) (wpAny_newObj_type (wpAny_bind (wpAny_pure (wpAny_pure ⟨_, rfl, wpAny_pure h⟩))) fits)
    | exact wpAny_bind (wpAny_bind (m := Builtin.Tuple.tupleExact _) (wpAny_newObj_type (wpAny_pure (wpAny_pure ⟨_, rfl, wpAny_pure h⟩)) fits))
    | exact wpAny_bind (wpAny_bind (m := Builtin.Tuple.tupleExact _) (wpAny_newObj_type (wpAny_pure ⟨_, rfl, wpAny_pure h⟩) fits))
end
section
variable {X : Cx} {m : Mk} {a b c e : Expr} {ta tb tc te : TE} {fa fb fc fe : En → Option PyData} {pos p : Pos}
/-! ### max, min of a list of ints -/
def maxL : List Int → Int
  | [] => 0
  | [x] => x
  | x :: r => max x (maxL r)
def minL : List Int → Int
  | [] => 0
  | [x] => x
  | x :: r => min x (minL r)
theorem maxL_ge : ∀ {ns : List Int} {y : Int}, y ∈ ns → y ≤ maxL ns
  | [], _, h => by cases h
  | [x], y, h => by
    rw [List.mem_singleton.mp h]
    exact Int.le_refl _
  | x :: z :: r, y, h => by
    show y ≤ max x (maxL (z :: r))
    rcases List.mem_cons.mp h with e | e
    · omega
    · have := maxL_ge e
      omega
theorem maxL_mem : ∀ {ns : List Int}, ns ≠ [] → maxL ns ∈ ns
  | [], h => absurd rfl h
  | [x], _ => List.mem_singleton.mpr rfl
  | x :: z :: r, _ => by
    show max x (maxL (z :: r)) ∈ x :: z :: r
    have := maxL_mem (ns := z :: r) (by simp)
    by_cases h : maxL (z :: r) ≤ x
    · rw [show max x (maxL (z :: r)) = x by omega]
      exact List.mem_cons_self
    · rw [show max x (maxL (z :: r)) = maxL (z :: r) by omega]
      exact List.mem_cons_of_mem _ this
theorem minL_le : ∀ {ns : List Int} {y : Int}, y ∈ ns → minL ns ≤ y
  | [], _, h => by cases h
  | [x], y, h => by
    rw [List.mem_singleton.mp h]
    exact Int.le_refl _
  | x :: z :: r, y, h => by
    show min x (minL (z :: r)) ≤ y
    rcases List.mem_cons.mp h with e | e
    · omega
    · have := minL_le e
      omega
theorem minL_mem : ∀ {ns : List Int}, ns ≠ [] → minL ns ∈ ns
  | [], h => absurd rfl h
  | [x], _ => List.mem_singleton.mpr rfl
  | x :: z :: r, _ => by
    show min x (minL (z :: r)) ∈ x :: z :: r
    have := minL_mem (ns := z :: r) (by simp)
    by_cases h : x ≤ minL (z :: r)
    · rw [show min x (minL (z :: r)) = x by omega]
      exact List.mem_cons_self
    · rw [show min x (minL (z :: r)) = minL (z :: r) by omega]
      exact List.mem_cons_of_mem _ this
def maxLD : PyData → Option PyData := onL fun xs => (asIs xs).bind fun ns => if ns = [] then none else some (.int (maxL ns))
def minLD : PyData → Option PyData := onL fun xs => (asIs xs).bind fun ns => if ns = [] then none else some (.int (minL ns))
theorem maxL_ok {K : PySem.W.Frag} : RLok K (rMax K) (on1 maxLD) := by
  intro H G xs ds z Q s r e q
  obtain ⟨d, rfl, e1⟩ := on1_some e
  obtain ⟨v, rfl, rv⟩ := r.one
  obtain ⟨ys, rfl, e2⟩ := onL_some e1
  cases e3 : asIs ys with
  | none => rw [e3] at e2; cases e2
  | some ns =>
    rw [e3] at e2
    have e4 : (if ns = [] then none else some (PyData.int (maxL ns))) = some z := e2
    split at e4
    · cases e4
    · rename_i hne
      cases e4
      cases rv with
      | lst hs ha =>
        rw [asIs_some e3] at ha
        rw [ha.ints] at hs
        refine ⟨_, ns, rfl, SqL.of (s _ _ hs), by cases ns <;> simp at hne ⊢, fun mm hm hle => ?_⟩
        have : mm = maxL ns := by
          have h1 := maxL_ge hm
          have h2 := hle _ (maxL_mem hne)
          omega
        rw [this]
        exact q.now s (.int _)
theorem minL_ok {K : PySem.W.Frag} : RLok K (rMin K) (on1 minLD) := by
  intro H G xs ds z Q s r e q
  obtain ⟨d, rfl, e1⟩ := on1_some e
  obtain ⟨v, rfl, rv⟩ := r.one
  obtain ⟨ys, rfl, e2⟩ := onL_some e1
  cases e3 : asIs ys with
  | none => rw [e3] at e2; cases e2
  | some ns =>
    rw [e3] at e2
    have e4 : (if ns = [] then none else some (PyData.int (minL ns))) = some z := e2
    split at e4
    · cases e4
    · rename_i hne
      cases e4
      cases rv with
      | lst hs ha =>
        rw [asIs_some e3] at ha
        rw [ha.ints] at hs
        refine ⟨_, ns, rfl, SqL.of (s _ _ hs), by cases ns <;> simp at hne ⊢, fun mm hm hle => ?_⟩
        have : mm = minL ns := by
          have h1 := minL_le hm
          have h2 := hle _ (minL_mem hne)
          omega
        rw [this]
        exact q.now s (.int _)
theorem pd_maxL (hc : X.calm = true) (hm : X.mg "max" = none) (ha : PDE X m e te fe) (hg : Gl X "max" := by rfl) (hs : starEach [e] X.env = (false, eval e X.env) :: starEach [] X.env := by rfl) : PDE X m (.Call (.Name "max" p) [e] [] pos) (tCB (rMax X.K) (tCons te tNil)) (fL (on1 maxLD) (fA fe fA0)) :=
  pd_callB (cr_max hc) maxL_ok hg hm (by decide +kernel) (pd_a ha pd_a0 hs) (he := hs)
theorem pd_minL (hc : X.calm = true) (hm : X.mg "min" = none) (ha : PDE X m e te fe) (hg : Gl X "min" := by rfl) (hs : starEach [e] X.env = (false, eval e X.env) :: starEach [] X.env := by rfl) : PDE X m (.Call (.Name "min" p) [e] [] pos) (tCB (rMin X.K) (tCons te tNil)) (fL (on1 minLD) (fA fe fA0)) :=
  pd_callB (cr_min hc) minL_ok hg hm (by decide +kernel) (pd_a ha pd_a0 hs) (he := hs)
/-! ### a list, a tuple from behind -/
def revD : PyData → Option PyData
  | .list xs => some (.list xs.reverse)
  | .tuple xs => some (.tuple xs.reverse)
  | _ => none
def tRevA (K : PySem.W.Frag) (te : TE) : TE := fun σ H Q => te σ H fun x H1 => ∃ a xs, x = .ref a ∧ ((SqL K H1 a xs ∧ ∀ p, H1 p = none → Q (.ref p) (upd H1 p (.lst xs.reverse))) ∨ (SqT K H1 a xs ∧ ∀ p, H1 p = none → Q (.ref p) (upd H1 p (.tup xs.reverse))))
theorem pe_revA {k : Nat} {p1 p2 p3 : Pos} (he : PE X e te) : PE X (.Subscript e (.Slice none none (some (.UnaryOp .USub (.Constant (.int 1) k p1) p2)) p3) pos) (tRevA X.K te) := by
  refine ⟨fun pins s σ H Q I h => ?_⟩
  refine Subscript_ (thn (he.run pins s σ H _ I h) fun v s1 ⟨x, H1, I1, r1, q1⟩ => ?_)
  obtain ⟨a, xs, ex, q1⟩ := q1
  subst ex
  cases r1
  have po : PO X (some (.UnaryOp .USub (.Constant (.int 1) k p1) p2)) (tPart (tUn (rU fun i => .int (-i)) (tC (.int 1)))) := po_some (pe_un un_neg pe_int)
  refine wpAny_Slice (thn (po_none.run pins s1 σ H1 (fun o H2 => o = none ∧ H2 = H1) I1 ⟨rfl, rfl⟩) fun vl s2 ⟨l, H2, I2, pl, el, e2⟩ => ?_)
  subst el e2
  refine thn (po_none.run pins s2 σ H2 (fun o H3 => o = none ∧ H3 = H2) I2 ⟨rfl, rfl⟩) fun vu s3 ⟨u, H3, I3, pu, eu, e3⟩ => ?_
  subst eu e3
  refine thn (po.run pins s3 σ H3 (fun o H4 => o = some (-1) ∧ H4 = H3) I3 ⟨1, rfl, -1, rfl, rfl, rfl⟩) fun vs s4 ⟨o, H4, I4, ps, eo, e4⟩ => ?_
  subst eo e4
  cases pl
  cases pu
  have I5 : Inv X pins σ H4 { s4 with heap := s4.heap.push { cls := .type "slice", data := .fields #[.none, .none, vs] } } := I4.kept (t' := s4.toks) fun b ob q => Heap.get?_push_of_some _ q
  show wpAny (model X.prog X.w) X.A (subscriptTail e (.Slice none none (some (.UnaryOp .USub (.Constant (.int 1) k p1) p2)) p3) (.ref a) (.ref s4.heap.objs.size)) (EP X pins σ Q) X.xe { s4 with heap := s4.heap.push { cls := .type "slice", data := .fields #[.none, .none, vs] } }
  rcases q1 with ⟨hx, q⟩ | ⟨hx, q⟩
  · obtain ⟨its, r, ht, hz⟩ := I5.list hx
    have hl := r.length
    refine tail_any (ops := [.ref a, .ref s4.heap.objs.size]) ht.isList.typeIs PySem.slot_list_getitem.lookup ?_ (by with_unfolding_all rfl)
    refine wpAny_getItem_list_slice ht.isList (Heap.IsSliceOf.new _ _ _ vs) .none .none ps (by decide) ?_ (by rw [List.size_toArray]; omega)
    rw [PySem.W.krv_pick]
    exact ⟨.ref _, _, I5.laid (t' := s4.toks) (o := .lst xs.reverse) (fun b ob q => Heap.get?_push_of_some _ q) (Nat.le_refl _) ⟨by rw [List.length_reverse]; exact hz, _, 0, r.reverse, Heap.get?_push_size _ rfl⟩, rfl, q _ (I5.hok.fresh (Nat.le_refl _))⟩
  · obtain ⟨its, r, ht, hz⟩ := I5.tuple hx
    have hl := r.length
    refine tail_any (ops := [.ref a, .ref s4.heap.objs.size]) ht.typeIs slot_tuple_getitem.lookup ?_ (by with_unfolding_all rfl)
    refine rev_get ht (Heap.IsSliceOf.new _ _ _ vs) ps (by rw [List.size_toArray]; omega) ?_
    exact ⟨.ref _, _, I5.laid (t' := s4.toks) (o := .tup xs.reverse) (fun b ob q => Heap.get?_push_of_some _ q) (Nat.le_refl _) ⟨by rw [List.length_reverse]; exact hz, _, r.reverse, ⟨_, Heap.get?_push_size _ rfl, rfl, _, rfl⟩⟩, rfl, q _ (I5.hok.fresh (Nat.le_refl _))⟩
theorem pd_rev {k : Nat} {p1 p2 p3 : Pos} (ha : PDE X m e te fe) : PDE X m (.Subscript e (.Slice none none (some (.UnaryOp .USub (.Constant (.int 1) k p1) p2)) p3) pos) (tRevA X.K te) (f1 revD fe) := by
  refine ⟨pe_revA ha.p, fun H0 G0 σ ρ H G Q d o h q => ?_⟩
  obtain ⟨x, e1, e2⟩ := f1_some h
  refine ha.r H0 G0 σ ρ H G _ x o e1 fun v H1 G1 g1 r1 => ?_
  have q' := q.grow g1
  cases x with
  | list xs =>
    cases e2
    cases r1 with
    | lst hs hr => exact ⟨_, _, rfl, .inl ⟨SqL.of (g1.gh _ _ hs), fun p hp => q'.lst g1.gh hr.rev hp⟩⟩
  | tuple xs =>
    cases e2
    cases r1 with
    | tup hs hr => exact ⟨_, _, rfl, .inr ⟨sqt_mono g1.gh hs, fun p hp => q'.tup g1.gh hr.rev hp⟩⟩
  | none => cases e2
  | bool _ => cases e2
  | int _ => cases e2
  | str _ => cases e2
  | dict _ => cases e2
end
end Tl

/-! dicts that are read; a text split. -/
namespace Tl
open PySem PySem.Spec PyProof.Rows L2
section
variable {X : Cx} {m : Mk} {a b c e : Expr} {ta tb tc te : TE} {fa fb fc fe : En → Option PyData} {pos p : Pos}
def asKey : PyData → Option Key
  | .int i => some (.inl i)
  | .str x => some (.inr x)
  | _ => none
theorem asKey_keyD (k : Key) : asKey (keyD k) = some k := by cases k <;> rfl
theorem asKey_rp {K : PySem.W.Frag} {G : Hp} {v : V} {d : PyData} {k : Key} (h : asKey d = some k) (r : Rp K G v d) : v = kV k := by
  cases d <;> simp [asKey] at h <;> subst h <;> cases r <;> rfl
/-- what stands under a key -/
def lookD (ks : List (PyData × PyData)) (k : Key) : Option PyData := (ks.find? fun kv => decide (asKey kv.1 = some k)).map (·.2)
theorem look_rp {K : PySem.W.Frag} {G : Hp} {k : Key} : ∀ {kvs : List (Key × V)} {ks : List (PyData × PyData)}, RpKv K G kvs ks → (valV kvs k = none ∧ lookD ks k = none) ∨ ∃ v d, valV kvs k = some v ∧ lookD ks k = some d ∧ Rp K G v d
  | _, [], h => by
    cases h
    exact .inl ⟨rfl, rfl⟩
  | _, (kd, d) :: ks, h => by
    cases h with
    | @cons k' v vs _ _ r t =>
      by_cases e : k' = k
      · subst e
        refine .inr ⟨v, d, ?_, ?_, r⟩
        · simp [valV]
        · simp [lookD, asKey_keyD]
      · have ih := look_rp (k := k) t
        have e1 : valV ((k', v) :: vs) k = valV vs k := by simp [valV, e]
        have e2 : lookD ((keyD k', d) :: ks) k = lookD ks k := by simp [lookD, asKey_keyD, e]
        rw [e1, e2]
        exact ih
/-- d[k] -/
def dixD : PyData → PyData → Option PyData
  | .dict ks, k => (asKey k).bind (lookD ks)
  | _, _ => none
def f3 (g : PyData → PyData → PyData → Option PyData) (fa fb fc : En → Option PyData) : En → Option PyData := fun ρ => (fa ρ).bind fun x => (fb ρ).bind fun y => (fc ρ).bind fun z => g x y z
/-- d.get(k, x) -/
def isScr : List (PyData × PyData) → Bool
  | (.none, _) :: _ => true
  | _ => false
def getD : PyData → PyData → PyData → Option PyData
  | .dict ks, k, x => if isScr ks = true then none else (asKey k).map fun k => (lookD ks k).getD x
  | _, _, _ => none
theorem dct_rp {K : PySem.W.Frag} {G : Hp} {v : V} {ks : List (PyData × PyData)} (r : Rp K G v (.dict ks)) : (∃ a kvs, v = .ref a ∧ G a = some (.dK kvs) ∧ RpKv K G kvs ks) ∨ ∃ d, ks = [(.none, d)] := by
  cases r with
  | dct hs ha => exact .inl ⟨_, _, rfl, hs, ha⟩
  | scr hs => exact .inr ⟨_, rfl⟩
theorem look_none (d : PyData) (k : Key) : lookD [(.none, d)] k = none := by simp [lookD, asKey]
theorem pd_dix (hu : X.A.units + 1 < cLine) (ha : PDE X m a ta fa) (hb : PDE X m b tb fb) (hs : NoSl b := by intro _ _; rfl) : PDE X m (.Subscript a b pos) (tDGet ta tb) (f2 dixD fa fb) := by
  refine ⟨pe_dget hu ha.p hb.p hs, fun H0 G0 σ ρ H G Q d o h q => ?_⟩
  obtain ⟨x, y, e1, e2, e3⟩ := f2_some h
  refine ha.r H0 G0 σ ρ H G _ x o e1 fun v H1 G1 g1 r1 => ?_
  refine hb.r H0 G0 σ ρ H1 G1 _ y (o.grow g1) e2 fun u H2 G2 g2 r2 => ?_
  cases x with
  | dict ks =>
    have e4 : (asKey y).bind (lookD ks) = some d := e3
    cases hk : asKey y with
    | none => rw [hk] at e4; cases e4
    | some k =>
      rw [hk] at e4
      have e5 : lookD ks k = some d := e4
      rcases dct_rp (r1.mono g2.gg) with ⟨p, kvs, rfl, hG, hkv⟩ | ⟨z, rfl⟩
      · rcases look_rp (k := k) hkv with ⟨_, n⟩ | ⟨w, d', l1, l2, rw'⟩
        · rw [n] at e5; cases e5
        · rw [l2] at e5
          cases e5
          refine ⟨p, w, rfl, ?_, ((q.grow g1).grow g2).now g2.gh rw'⟩
          rw [asKey_rp hk r2, ← l1]
          exact DGet.k (g2.gh _ _ hG)
      · rw [look_none] at e5; cases e5
  | none => cases e3
  | bool _ => cases e3
  | int _ => cases e3
  | str _ => cases e3
  | list _ => cases e3
  | tuple _ => cases e3
theorem pd_get {apos : Pos} (hu : X.A.units + 1 < cLine) (ha : PDE X m a ta fa) (hb : PDE X m b tb fb) (hc : PDE X m c tc fc) (hm : M2 X a "get" apos b c pos := by exact ⟨rfl, rfl, rfl, rfl⟩) :
    PDE X m (.Call (.Attribute a "get" apos) [b, c] [] pos) (tDGet2 ta tb tc) (f3 getD fa fb fc) := by
  refine ⟨pe_dget2 hu ha.p hb.p hc.p hm, fun H0 G0 σ ρ H G Q d o h q => ?_⟩
  unfold f3 at h
  cases e1 : fa ρ with
  | none => rw [e1] at h; cases h
  | some x =>
    cases e2 : fb ρ with
    | none => rw [e1, e2] at h; cases h
    | some y =>
      cases e3 : fc ρ with
      | none => rw [e1, e2, e3] at h; cases h
      | some z =>
        rw [e1, e2, e3] at h
        have e4 : getD x y z = some d := h
        refine ha.r H0 G0 σ ρ H G _ x o e1 fun v H1 G1 g1 r1 => ?_
        cases x with
        | dict ks =>
          have e40 : (if isScr ks = true then none else (asKey y).map (fun k => (lookD ks k).getD z)) = some d := e4
          have hno : ¬ isScr ks = true := fun z => by rw [if_pos z] at e40; cases e40
          have e5 : (asKey y).map (fun k => (lookD ks k).getD z) = some d := by rw [if_neg hno] at e40; exact e40
          cases hk : asKey y with
          | none => rw [hk] at e5; cases e5
          | some k =>
            rw [hk] at e5
            have e6 : (lookD ks k).getD z = d := Option.some.inj e5
            rcases dct_rp r1 with ⟨p, kvs, rfl, hG, hkv⟩ | ⟨w, rfl⟩
            · refine ⟨p, rfl, .inl ⟨kvs, .inl (g1.gh _ _ hG)⟩, ?_⟩
              refine hb.r H0 G0 σ ρ H1 G1 _ y (o.grow g1) e2 fun u H2 G2 g2 r2 => ?_
              refine hc.r H0 G0 σ ρ H2 G2 _ z ((o.grow g1).grow g2) e3 fun u3 H3 G3 g3 r3 => ?_
              have hG3 := g3.gg _ _ (g2.gg _ _ hG)
              refine ⟨valV kvs k, ?_, ?_⟩
              · rw [asKey_rp hk r2]
                exact DGet.k (g3.gh _ _ hG3)
              · have q3 := ((q.grow g1).grow g2).grow g3
                rcases look_rp (k := k) ((hkv.mono g2.gg).mono g3.gg) with ⟨n1, n2⟩ | ⟨w, d', l1, l2, rw'⟩
                · rw [n1]
                  rw [n2] at e6
                  cases e6
                  exact q3.now g3.gh r3
                · rw [l1]
                  rw [l2] at e6
                  cases e6
                  exact q3.now g3.gh rw'
            · exact absurd rfl hno
        | none => cases e4
        | bool _ => cases e4
        | int _ => cases e4
        | str _ => cases e4
        | list _ => cases e4
        | tuple _ => cases e4
/-! ### a written dict with unlike text keys -/
theorem put_new {kvs : List (Key × V)} {k : Key} {v : V} (h : k ∉ kvs.map (·.1)) : putK kvs k v = kvs ++ [(k, v)] := by
  unfold putK
  rw [if_neg]
  intro q
  obtain ⟨kv, h1, h2⟩ := List.any_eq_true.mp q
  exact h (List.mem_map.mpr ⟨kv, h1, of_decide_eq_true h2⟩)
theorem merge_new : ∀ (more kvs : List (Key × V)), ((kvs ++ more).map (·.1)).Nodup → mergeK kvs more = kvs ++ more
  | [], kvs, _ => by simp [mergeK]
  | (k, v) :: r, kvs, h => by
    have hk : k ∉ kvs.map (·.1) := fun hm => by
      rw [List.map_append, List.nodup_append] at h
      exact h.2.2 k hm k (by simp) rfl
    show mergeK (putK kvs k v) r = _
    rw [put_new hk, merge_new r (kvs ++ [(k, v)]) (by simpa using h)]
    simp
def RP (K : PySem.W.Frag) (m : Mk) (ks : List Str) (trs : List (TE × TE)) (f : En → Option (List PyData)) : Prop :=
  ∀ H0 G0 σ ρ H G (Q : List (V × V) → Hp → Prop) ds, Ok K H0 G0 m σ ρ H G → f ρ = some ds →
    (∀ vs H' G', Gr H G H' G' → RpAll K G' vs ds → vs.length = ks.length → Q ((ks.zip vs).map fun kv => (V.str kv.1, kv.2)) H') → tPairs trs σ H Q
structure PDP (X : Cx) (m : Mk) (pos : Pos) (keys : List (Option Expr)) (values : List Expr) (ks : List Str) (trs : List (TE × TE)) (f : En → Option (List PyData)) : Prop where
  p : PPs X pos keys values trs
  r : RP X.K m ks trs f
theorem pd_p0 : PDP X m pos [] [] [] [] fA0 := ⟨pps_nil, fun H0 G0 σ ρ H G Q ds o h q => by
  cases h
  exact q [] H G (.of o) .nil rfl⟩
theorem pd_p {k : Str} {j : Nat} {kp : Pos} {keys : List (Option Expr)} {values : List Expr} {ks : List Str} {trs : List (TE × TE)} {f : En → Option (List PyData)} (he : PDE X m e te fe) (hr : PDP X m pos keys values ks trs f) :
    PDP X m pos (some (.Constant (.str k) j kp) :: keys) (e :: values) (k :: ks) ((tC (.str k), te) :: trs) (fA fe f) := by
  refine ⟨pps_cons pe_str he.p hr.p, fun H0 G0 σ ρ H G Q ds o h q => ?_⟩
  unfold fA at h
  cases e1 : fe ρ with
  | none => rw [e1] at h; cases h
  | some x =>
    rw [e1] at h
    cases e2 : f ρ with
    | none => rw [e2] at h; cases h
    | some xs =>
      rw [e2] at h
      have hq : x :: xs = ds := Option.some.inj h
      subst hq
      refine he.r H0 G0 σ ρ H G _ x o e1 fun v H1 G1 g1 r1 => ?_
      refine hr.r H0 G0 σ ρ H1 G1 _ xs (o.grow g1) e2 fun vs H2 G2 g2 r2 hl => ?_
      exact q (v :: vs) H2 G2 (g1.trans g2) (.cons (r1.mono g2.gg) r2) (by simp [hl])
def fDict (ks : List Str) (f : En → Option (List PyData)) : En → Option PyData := fun ρ => (f ρ).map fun ds => .dict ((ks.zip ds).map fun kv => (PyData.str kv.1, kv.2))
theorem kv_zip {K : PySem.W.Frag} {G : Hp} : ∀ {ks : List Str} {vs : List V} {ds : List PyData}, RpAll K G vs ds → RpKv K G ((ks.zip vs).map fun kv => ((Sum.inr kv.1 : Key), kv.2)) ((ks.zip ds).map fun kv => (PyData.str kv.1, kv.2))
  | [], _, _, _ => by simpa using RpKv.nil
  | k :: ks, _, [], h => by
    cases h
    simpa using RpKv.nil
  | k :: ks, _, d :: ds, h => by
    cases h with
    | cons r t => exact RpKv.cons (k := Sum.inr k) r (kv_zip t)
theorem pd_dict {keys : List (Option Expr)} {values : List Expr} {ks : List Str} {trs : List (TE × TE)} {f : En → Option (List PyData)} (h : PDP X m pos keys values ks trs f) (hnd : ks.Nodup) (hall : keys.all (·.isSome) = true := by rfl) (hl : keys.length = values.length := by rfl) (h0 : keys ≠ [] := by exact fun z => by cases z)
    (h15 : keys.length ≤ 15 := by decide) (hk : ks.length ≤ 15 := by decide) : PDE X m (.Dict keys values pos) (tDisp trs) (fDict ks f) := by
  refine ⟨pe_disp h.p hall hl h0 h15, fun H0 G0 σ ρ H G Q d o e q => ?_⟩
  unfold fDict at e
  cases e1 : f ρ with
  | none => rw [e1] at e; cases e
  | some ds =>
    rw [e1] at e
    cases e
    intro p hp
    have g0 : Gr H G (upd H p (.dK [])) G := Gr.hid o.gh hp
    have hpG : G p = none := o.gh.free hp
    refine h.r H0 G0 σ ρ _ G _ ds (o.grow g0) e1 fun vs H2 G2 g2 r2 hvl => ?_
    have hp2 : H2 p = some (.dK []) := g2.hh _ _ upd_same
    have hpG2 : G2 p = none := by
      cases z : G2 p with
      | none => rfl
      | some ob =>
        rcases g2.nw p ob z with z' | z'
        · rw [hpG] at z'; cases z'
        · rw [upd_same] at z'; cases z'
    refine ⟨hp2, (ks.zip vs).map fun kv => ((Sum.inr kv.1 : Key), kv.2), ?_, ?_, ?_⟩
    · rw [List.map_map]
      rfl
    · rw [List.length_map, List.length_zip]
      omega
    · have hm : mergeK [] ((ks.zip vs).map fun kv => ((Sum.inr kv.1 : Key), kv.2)) = (ks.zip vs).map fun kv => ((Sum.inr kv.1 : Key), kv.2) := by
        rw [merge_new _ []]
        · rfl
        · rw [List.nil_append, List.map_map]
          have : ((fun x : Key × V => x.1) ∘ fun kv : Str × V => ((Sum.inr kv.1 : Key), kv.2)) = (fun s : Str => (Sum.inr s : Key)) ∘ Prod.fst := rfl
          rw [this, ← List.map_map, List.map_fst_zip (by omega)]
          exact hnd.map _ fun a b hab e => hab (Sum.inr.inj e)
      rw [hm]
      have gA : Gr H G H2 G2 := g0.trans g2
      have gB := gA.mut (o := .dK ((ks.zip vs).map fun kv => ((Sum.inr kv.1 : Key), kv.2))) hp hpG2
      have gC := gB.show hp hpG2 upd_same
      exact q _ _ _ gC (.dct upd_same ((kv_zip r2).mono (same_upd hpG2)))
/-! ### s.split(sep) -/
def splitD (d e : PyData) : Option PyData := match d, e with
  | .str a, .str b => if (b.length == 0) = false ∧ a.length + 2 ≤ sizeLine then some (.list ((Txt.split a b).map .str)) else none
  | _, _ => none
def rSplitA : V → List V → Hp → VK → Prop := fun x xs H Q => ∃ a b, x = .str a ∧ xs = [.str b] ∧ (b.length == 0) = false ∧ a.length + 2 ≤ sizeLine ∧ rNewStrs (Txt.split a b) H Q
theorem pd_split {apos : Pos} (ha : PDE X m a ta fa) (hb : PDE X m b tb fb) (hs : starEach [b] X.env = [(false, eval b X.env)] := by rfl) (hbase : attributeBase a "split" X.env (eval a X.env) = eval a X.env := by rfl) (hline : (apos.endLine == pos.line) = true := by rfl) :
    PDE X m (.Call (.Attribute a "split" apos) [b] [] pos) (tM1 rSplitA ta tb) (f2 splitD fa fb) := by
  refine ⟨pe_split ha.p hb.p hs hbase hline, fun H0 G0 σ ρ H G Q d o h q => ?_⟩
  obtain ⟨x, y, e1, e2, e3⟩ := f2_some h
  refine ha.r H0 G0 σ ρ H G _ x o e1 fun v H1 G1 g1 r1 => ?_
  unfold splitD at e3
  split at e3
  · rename_i z w
    cases r1
    refine ⟨⟨_, rfl⟩, ?_⟩
    refine hb.r H0 G0 σ ρ H1 G1 _ _ (o.grow g1) e2 fun u H2 G2 g2 r2 => ?_
    cases r2
    split at e3
    · rename_i hz
      cases e3
      exact ⟨z, w, rfl, rfl, hz.1, hz.2, fun p hp => ((q.grow g1).grow g2).lst g2.gh (RpAll.of_strs _) hp⟩
    · cases e3
  · cases e3
end
end Tl

namespace Tk
open PySem L2 Tl
def fuel : Nat := 24
def wfuel : Nat := 1000000
def scr (ns : List Int) : PyData := .dict [(.none, .list (ns.map PyData.int))]
def B_is_name : En → Out :=
  (fRet (fAndV (f1 (fun d => some (.bool (isStrD d))) (fV 0)) (fAndV (fLele (fC (.int 1)) (fL (on1 lenD) (fA (fV 0) fA0)) (fC (.int 5))) (fL (on1 allD) (fA (fComp [1] (fSigns (fV 0)) (gN 1) fYes (f2 inP (fV 1) (fC (.str "abcdefghijklmnopqrstuvwxyz")))) fA0)))))
def F_is_name : List PyData → Option PyData := runB 1 2 B_is_name
def B_is_whole : En → Out :=
  (fRet (fAndV (f1 (fun d => some (.bool (isIntD d))) (fV 0)) (fAndV (f1 notD (f1 (fun d => some (.bool (isBoolD d))) (fV 0))) (fLele (fV 1) (fV 0) (fV 2)))))
def F_is_whole : List PyData → Option PyData := runB 3 3 B_is_whole
def B_is_task_to (r : Nat → List PyData → Option PyData) : En → Out :=
  (fSeq (fIf (fOr (fB (f2 eqP (fV 1) (fC (.int 0)))) (fOr (fNot (fB (f1 (fun d => some (.bool (isTupD d))) (fV 0)))) (fOr (fB (f2 ltD (fL (on1 lenD) (fA (fV 0) fA0)) (fC (.int 2)))) (fNot (fB (f1 (fun d => some (.bool (isStrD d))) (f2 ixD (fV 0) (fC (.int 0))))))))) (fRet (fC (.bool false))) fNext)
  (fSeq (fIf (fB (f2 inP (f2 ixD (fV 0) (fC (.int 0))) (fC (.tuple [(.str "all"), (.str "any"), (.str "then")])))) (fSeq (fAsg (f2 addD (fC (.int 1)) (fL (on1 intD) (fA (f2 eqP (f2 ixD (fV 0) (fC (.int 0))) (fC (.str "then"))) fA0))) (gN 2))
  (fSeq (fIf (fOr (fB (f2 neP (fL (on1 lenD) (fA (fV 0) fA0)) (fC (.int 2)))) (fOr (fNot (fB (f1 (fun d => some (.bool (isTupD d))) (f2 ixD (fV 0) (fC (.int 1)))))) (fNot (fB (fLele (fV 2) (fL (on1 lenD) (fA (f2 ixD (fV 0) (fC (.int 1))) fA0)) (fC (.int 3))))))) (fRet (fC (.bool false))) fNext)
  (fRet (fL (on1 allD) (fA (fComp [3] (fItems (f2 ixD (fV 0) (fC (.int 1)))) (gN 3) fYes (fL (r 0) (fA (fV 3) (fA (f2 subD (fV 1) (fC (.int 1))) fA0)))) fA0))))) fNext)
  (fSeq (fIf (fB (f2 neP (fL (on1 lenD) (fA (fV 0) fA0)) (fC (.int 3)))) (fRet (fC (.bool false))) fNext)
  (fSeq (fIf (fB (f2 eqP (f2 ixD (fV 0) (fC (.int 0))) (fC (.str "do")))) (fRet (fAndV (fL F_is_name (fA (f2 ixD (fV 0) (fC (.int 1))) fA0)) (fL F_is_whole (fA (f2 ixD (fV 0) (fC (.int 2))) (fA (fC (.int 1)) (fA (fC (.int 4)) fA0)))))) fNext)
  (fSeq (fIf (fB (f2 eqP (f2 ixD (fV 0) (fC (.int 0))) (fC (.str "without")))) (fRet (fAndV (fL F_is_name (fA (f2 ixD (fV 0) (fC (.int 1))) fA0)) (fL (r 0) (fA (f2 ixD (fV 0) (fC (.int 2))) (fA (f2 subD (fV 1) (fC (.int 1))) fA0))))) fNext)
  (fRet (fAndV (f2 eqP (f2 ixD (fV 0) (fC (.int 0))) (fC (.str "within"))) (fAndV (fL F_is_whole (fA (f2 ixD (fV 0) (fC (.int 1))) (fA (fC (.int 1)) (fA (fC (.int 9)) fA0)))) (fL (r 0) (fA (f2 ixD (fV 0) (fC (.int 2))) (fA (f2 subD (fV 1) (fC (.int 1))) fA0)))))))))))
def G_is_task_to : Nat → Nat → List PyData → Option PyData
  | 0 => fun _ _ => none
  | n + 1 => fun k => match k with
    | _ => runB 2 4 (B_is_task_to (G_is_task_to n))
def F_is_task_to : List PyData → Option PyData := G_is_task_to fuel 0
def B_is_task : En → Out :=
  (fRet (fL F_is_task_to (fA (fV 0) (fA (fC (.int 4)) fA0))))
def F_is_task : List PyData → Option PyData := runB 1 1 B_is_task
def B_tasks_in : En → Out :=
  (fSeq (fIf (fB (f2 inP (f2 ixD (fV 0) (fC (.int 0))) (fC (.tuple [(.str "all"), (.str "any"), (.str "then")])))) (fRet (f2 ixD (fV 0) (fC (.int 1)))) fNext)
  (fSeq (fIf (fB (f2 eqP (f2 ixD (fV 0) (fC (.int 0))) (fC (.str "do")))) (fRet (fTup fA0)) fNext)
  (fRet (fSl (fV 0) (fO (fC (.int 2))) fO0))))
def F_tasks_in : List PyData → Option PyData := runB 1 1 B_tasks_in
def B_size (r : Nat → List PyData → Option PyData) : En → Out :=
  (fRet (f2 addD (fC (.int 1)) (fL (on1 sumD) (fA (fComp [1] (fItems (fL F_tasks_in (fA (fV 0) fA0))) (gN 1) fYes (fL (r 0) (fA (fV 1) fA0))) fA0))))
def G_size : Nat → Nat → List PyData → Option PyData
  | 0 => fun _ _ => none
  | n + 1 => fun k => match k with
    | _ => runB 1 2 (B_size (G_size n))
def F_size : List PyData → Option PyData := G_size fuel 0
def B__law_cell_at : En → Out :=
  (fSeq (fIf (fB (f2 ltD (fV 1) (fL (on1 lenD) (fA (fV 0) fA0)))) (fRet (f2 ixD (fV 0) (fV 1))) fNext)
  (fRet (fC (.int 0))))
def F__law_cell_at : List PyData → Option PyData := runB 2 2 B__law_cell_at
def B__law_mixed : En → Out :=
  (fSeq (fAsg (f2 modD (f2 mulD (f2 addD (f2 addD (fL F__law_cell_at (fA (fV 0) (fA (fV 1) fA0))) (f2 mulD (fC (.int 7919)) (fV 1))) (fC (.int 1))) (fC (.int 48271))) (fC (.int 2147483647))) (gN 2))
  (fRet (f2 modD (f2 addD (f2 addD (f2 mulD (fV 2) (fV 2)) (f2 mulD (fC (.int 7)) (fV 2))) (fV 1)) (fC (.int 2147483629)))))
def F__law_mixed : List PyData → Option PyData := runB 2 3 B__law_mixed
def B__law_drawn : En → Out :=
  (fSeq (fAsg (f2 modD (f2 mulD (f2 addD (f2 addD (fV 0) (f2 mulD (fC (.int 104729)) (fV 1))) (fC (.int 17))) (fC (.int 69621))) (fC (.int 2147483647))) (gN 2))
  (fRet (f2 modD (f2 addD (f2 addD (f2 mulD (fV 2) (fV 2)) (f2 mulD (fC (.int 3)) (fV 2))) (fV 1)) (fC (.int 2147483629)))))
def F__law_drawn : List PyData → Option PyData := runB 2 3 B__law_drawn
def B__law_any : En → Out :=
  (fSeq (fAsg (fC (.str "abcdefghijklmnopqrstuvwxyz")) (gN 2))
  (fRet (f2 joinD (fC (.str "")) (fComp [3] (fRng1 (fA (f2 addD (fC (.int 1)) (f2 modD (fV 0) (fV 1))) fA0)) (gN 3) fYes (f2 ixD (fV 2) (f2 modD (f2 fdvD (fL F__law_drawn (fA (fV 0) (fA (f2 addD (fC (.int 70)) (fV 3)) fA0))) (fC (.int 4))) (fC (.int 26))))))))
def F__law_any : List PyData → Option PyData := runB 2 4 B__law_any
def B__law_swapped (r : Nat → List PyData → Option PyData) : En → Out :=
  (fSeq (fIf (fB (f1 (fun d => some (.bool (isTupD d))) (fV 0))) (fRet (fL (on1 tupD) (fA (fComp [2] (fItems (fV 0)) (gN 2) fYes (fL (r 0) (fA (fV 2) (fA (fV 1) fA0)))) fA0))) fNext)
  (fSeq (fIf (fB (f1 (fun d => some (.bool (isStrD d))) (fV 0))) (fRet (f3 getD (fV 1) (fV 0) (fV 0))) fNext)
  (fRet (fV 0))))
def G__law_swapped : Nat → Nat → List PyData → Option PyData
  | 0 => fun _ _ => none
  | n + 1 => fun k => match k with
    | _ => runB 2 3 (B__law_swapped (G__law_swapped n))
def F__law_swapped : List PyData → Option PyData := G__law_swapped fuel 0
def B__law_task (r : Nat → List PyData → Option PyData) : En → Out :=
  (fSeq (fAsg (f2 ixD (fC (.str "abc")) (f2 modD (f2 fdvD (fV 0) (fC (.int 8))) (fC (.int 3)))) (gN 3))
  (fSeq (fAsg (f2 modD (fV 0) (fC (.int 8))) (gN 4))
  (fSeq (fIf (fOr (fB (f2 eqP (fV 1) (fC (.int 1)))) (fB (f2 ltD (fV 4) (fC (.int 2))))) (fRet (fTup (fA (fC (.str "do")) (fA (fV 3) (fA (f2 addD (fC (.int 1)) (f2 modD (f2 fdvD (fV 0) (fC (.int 64))) (fV 2))) fA0))))) fNext)
  (fSeq (fIf (fB (f2 eqP (fV 4) (fC (.int 6)))) (fRet (fTup (fA (fC (.str "without")) (fA (fV 3) (fA (fL (r 0) (fA (f2 fdvD (fL F__law_drawn (fA (fV 0) (fA (fC (.int 1)) fA0))) (fC (.int 4))) (fA (f2 subD (fV 1) (fC (.int 1))) (fA (fV 2) fA0)))) fA0))))) fNext)
  (fSeq (fIf (fB (f2 eqP (fV 4) (fC (.int 7)))) (fSeq (fAsg (f2 addD (fC (.int 1)) (f2 modD (f2 fdvD (fV 0) (fC (.int 64))) (f2 ixD (fTup (fA (fC (.int 9)) (fA (fC (.int 4)) fA0))) (f2 modD (f2 fdvD (fV 0) (fC (.int 1024))) (fC (.int 2)))))) (gN 5))
  (fRet (fTup (fA (fC (.str "within")) (fA (fV 5) (fA (fL (r 0) (fA (f2 fdvD (fL F__law_drawn (fA (fV 0) (fA (fC (.int 2)) fA0))) (fC (.int 4))) (fA (f2 subD (fV 1) (fC (.int 1))) (fA (fV 2) fA0)))) fA0)))))) fNext)
  (fSeq (fAsg (f2 addD (fC (.int 1)) (f2 modD (f2 fdvD (fV 0) (fC (.int 64))) (fC (.int 3)))) (gN 5))
  (fSeq (fAsg (f2 ixD (fTup (fA (fC (.str "all")) (fA (fC (.str "any")) (fA (fC (.str "then")) (fA (fC (.str "all")) fA0))))) (f2 subD (fV 4) (fC (.int 2)))) (gN 6))
  (fSeq (fIf (fB (f2 eqP (fV 6) (fC (.str "then")))) (fAsg (fL (on2 maxD) (fA (fC (.int 2)) (fA (fV 5) fA0))) (gN 5)) fNext)
  (fRet (fTup (fA (fV 6) (fA (fL (on1 tupD) (fA (fComp [7] (fRng1 (fA (fV 5) fA0)) (gN 7) fYes (fL (r 0) (fA (f2 fdvD (fL F__law_drawn (fA (fV 0) (fA (f2 addD (fC (.int 3)) (fV 7)) fA0))) (fC (.int 4))) (fA (f2 subD (fV 1) (fC (.int 1))) (fA (fV 2) fA0))))) fA0)) fA0))))))))))))
def G__law_task : Nat → Nat → List PyData → Option PyData
  | 0 => fun _ _ => none
  | n + 1 => fun k => match k with
    | _ => runB 3 8 (B__law_task (G__law_task n))
def F__law_task : List PyData → Option PyData := G__law_task fuel 0
def B__law_deeds : En → Out :=
  (fRet (fL (on1 tupD) (fA (fComp [2] (fRng1 (fA (f2 modD (fV 0) (f2 addD (fV 1) (fC (.int 1)))) fA0)) (gN 2) fYes (f2 ixD (fC (.str "abcabcd")) (f2 modD (f2 fdvD (fL F__law_drawn (fA (fV 0) (fA (f2 addD (fC (.int 20)) (fV 2)) fA0))) (fC (.int 4))) (fC (.int 7))))) fA0)))
def F__law_deeds : List PyData → Option PyData := runB 2 3 B__law_deeds
def B__law_from : En → Out :=
  (fRet (fAndV (f1 (fun d => some (.bool (isIntD d))) (fV 0)) (fAndV (f1 notD (f1 (fun d => some (.bool (isBoolD d))) (fV 0))) (fLele (fV 1) (fV 0) (fV 2)))))
def F__law_from : List PyData → Option PyData := runB 3 3 B__law_from
def B__law_size (r : Nat → List PyData → Option PyData) : En → Out :=
  (fSeq (fIf (fB (f2 eqP (f2 ixD (fV 0) (fC (.int 0))) (fC (.str "do")))) (fRet (fC (.int 1))) fNext)
  (fSeq (fIf (fB (f2 inP (f2 ixD (fV 0) (fC (.int 0))) (fTup (fA (fC (.str "without")) (fA (fC (.str "within")) fA0))))) (fRet (f2 addD (fC (.int 1)) (fL (r 0) (fA (f2 ixD (fV 0) (fC (.int 2))) fA0)))) fNext)
  (fRet (f2 addD (fC (.int 1)) (fL (on1 sumD) (fA (fComp [1] (fItems (f2 ixD (fV 0) (fC (.int 1)))) (gN 1) fYes (fL (r 0) (fA (fV 1) fA0))) fA0))))))
def G__law_size : Nat → Nat → List PyData → Option PyData
  | 0 => fun _ _ => none
  | n + 1 => fun k => match k with
    | _ => runB 1 2 (B__law_size (G__law_size n))
def F__law_size : List PyData → Option PyData := G__law_size fuel 0
def B_task_words (r : Nat → List PyData → Option PyData) : En → Out :=
  (fSeq (fIf (fB (f2 eqP (f2 ixD (fV 0) (fC (.int 0))) (fC (.str "do")))) (fRet (fLst (fA (f2 ixD (fV 0) (fC (.int 0))) (fA (f2 ixD (fV 0) (fC (.int 1))) (fA (fL (on1 strD) (fA (f2 ixD (fV 0) (fC (.int 2))) fA0)) fA0))))) fNext)
  (fSeq (fAsg (fLst fA0) (gN 1))
  (fSeq (fFor (fItems (fL F_tasks_in (fA (fV 0) fA0))) (gN 2) (fExt 1 (fL (r 0) (fA (fV 2) fA0))))
  (fSeq (fIf (fB (f2 inP (f2 ixD (fV 0) (fC (.int 0))) (fC (.tuple [(.str "all"), (.str "any"), (.str "then")])))) (fRet (f2 addD (f2 addD (fLst (fA (f2 ixD (fV 0) (fC (.int 0))) (fA (fC (.str "(")) fA0))) (fV 1)) (fLst (fA (fC (.str ")")) fA0)))) fNext)
  (fRet (f2 addD (fLst (fA (f2 ixD (fV 0) (fC (.int 0))) (fA (fL (on1 strD) (fA (f2 ixD (fV 0) (fC (.int 1))) fA0)) fA0))) (fV 1)))))))
def G_task_words : Nat → Nat → List PyData → Option PyData
  | 0 => fun _ _ => none
  | n + 1 => fun k => match k with
    | _ => runB 1 3 (B_task_words (G_task_words n))
def F_task_words : List PyData → Option PyData := G_task_words fuel 0
def B_written : En → Out :=
  (fRet (f2 joinD (fC (.str " ")) (fL F_task_words (fA (fV 0) fA0))))
def F_written : List PyData → Option PyData := runB 1 1 B_written
def B__law_text (r : Nat → List PyData → Option PyData) : En → Out :=
  (fSeq (fIf (fB (f2 eqP (f2 ixD (fV 0) (fC (.int 0))) (fC (.str "do")))) (fRet (f2 addD (f2 addD (f2 addD (fC (.str "do ")) (f2 ixD (fV 0) (fC (.int 1)))) (fC (.str " "))) (fL (on1 strD) (fA (f2 ixD (fV 0) (fC (.int 2))) fA0)))) fNext)
  (fSeq (fIf (fB (f2 inP (f2 ixD (fV 0) (fC (.int 0))) (fTup (fA (fC (.str "without")) (fA (fC (.str "within")) fA0))))) (fRet (f2 addD (f2 addD (f2 addD (f2 addD (f2 ixD (fV 0) (fC (.int 0))) (fC (.str " "))) (fL (on1 strD) (fA (f2 ixD (fV 0) (fC (.int 1))) fA0))) (fC (.str " "))) (fL (r 0) (fA (f2 ixD (fV 0) (fC (.int 2))) fA0)))) fNext)
  (fRet (f2 joinD (fC (.str " ")) (f2 addD (f2 addD (fLst (fA (f2 ixD (fV 0) (fC (.int 0))) (fA (fC (.str "(")) fA0))) (fComp [1] (fItems (f2 ixD (fV 0) (fC (.int 1)))) (gN 1) fYes (fL (r 0) (fA (fV 1) fA0)))) (fLst (fA (fC (.str ")")) fA0)))))))
def G__law_text : Nat → Nat → List PyData → Option PyData
  | 0 => fun _ _ => none
  | n + 1 => fun k => match k with
    | _ => runB 1 2 (B__law_text (G__law_text n))
def F__law_text : List PyData → Option PyData := G__law_text fuel 0
def B__law_changed : En → Out :=
  (fSeq (fAsg (f2 splitD (fV 0) (fC (.str " "))) (gN 2))
  (fSeq (fAsg (f2 modD (f2 fdvD (fV 1) (fC (.int 8))) (fL (on1 lenD) (fA (fV 2) fA0))) (gN 3))
  (fSeq (fAsg (fLst (fA (fC (.str "do")) (fA (fC (.str "all")) (fA (fC (.str "(")) (fA (fC (.str ")")) (fA (fC (.str "a")) (fA (fC (.str "b")) (fA (fC (.str "3")) (fA (fC (.str "5")) (fA (fC (.str "0")) (fA (fC (.str "01")) (fA (fC (.str "then")) (fA (fC (.str "any")) (fA (fC (.str "without")) (fA (fC (.str "within")) (fA (fC (.str "")) (fA (fC (.str "x y")) fA0))))))))))))))))) (gN 4))
  (fSeq (fAsg (fLst (fA (f2 addD (fSl (fV 2) fO0 (fO (fV 3))) (fSl (fV 2) (fO (f2 addD (fV 3) (fC (.int 1)))) fO0)) (fA (f2 addD (f2 addD (fSl (fV 2) fO0 (fO (fV 3))) (fSl (fV 2) (fO (fV 3)) (fO (f2 addD (fV 3) (fC (.int 1)))))) (fSl (fV 2) (fO (fV 3)) fO0)) fA0))) (gN 5))
  (fSeq (fAsg (f2 ixD (fV 4) (f2 modD (f2 fdvD (fV 1) (fC (.int 256))) (fC (.int 16)))) (gN 6))
  (fSeq (fApp 5 (f2 addD (f2 addD (fSl (fV 2) fO0 (fO (fV 3))) (fLst (fA (fV 6) fA0))) (fSl (fV 2) (fO (f2 addD (fV 3) (fC (.int 1)))) fO0)))
  (fSeq (fApp 5 (f2 addD (f2 addD (fSl (fV 2) fO0 (fO (fV 3))) (fLst (fA (fSl (f2 ixD (fV 2) (fV 3)) fO0 (fO (f1 negD (fC (.int 1))))) fA0))) (fSl (fV 2) (fO (f2 addD (fV 3) (fC (.int 1)))) fO0)))
  (fSeq (fApp 5 (f2 addD (f2 addD (fSl (fV 2) fO0 (fO (fV 3))) (fLst (fA (f2 addD (f2 ixD (fV 2) (fV 3)) (fC (.str "a"))) fA0))) (fSl (fV 2) (fO (f2 addD (fV 3) (fC (.int 1)))) fO0)))
  (fSeq (fAsg (f1 revD (fSl (fV 2) (fO (fV 3)) (fO (f2 addD (fV 3) (fC (.int 2)))))) (gN 7))
  (fSeq (fApp 5 (f2 addD (f2 addD (fSl (fV 2) fO0 (fO (fV 3))) (fV 7)) (fSl (fV 2) (fO (f2 addD (fV 3) (fC (.int 2)))) fO0)))
  (fRet (f2 joinD (fC (.str " ")) (f2 ixD (fV 5) (f2 modD (fV 1) (fC (.int 6))))))))))))))))
def F__law_changed : List PyData → Option PyData := runB 2 8 B__law_changed
def B__law_places_in (r : Nat → List PyData → Option PyData) : En → Out :=
  (fSeq (fAsg (fLst (fA (fV 1) fA0)) (gN 2))
  (fSeq (fIf (fB (f1 (fun d => some (.bool (isTupD d))) (fV 0))) (fFor (fEnum (fA (fV 0) fA0)) (gT (gsC (gN 3) (gsC (gN 4) gs0)) 2) (fAsg (f2 addD (fV 2) (fL (r 0) (fA (fV 4) (fA (f2 addD (fV 1) (fTup (fA (fV 3) fA0))) fA0)))) (gN 2))) fNext)
  (fRet (fV 2))))
def G__law_places_in : Nat → Nat → List PyData → Option PyData
  | 0 => fun _ _ => none
  | n + 1 => fun k => match k with
    | _ => runB 2 5 (B__law_places_in (G__law_places_in n))
def F__law_places_in : List PyData → Option PyData := G__law_places_in fuel 0
def B__law_otherwise : En → Out :=
  (fSeq (fIf (fB (f1 (fun d => some (.bool (isTupD d))) (fV 0))) (fSeq (fAsg (fLst (fA (fL (on1 lstD) (fA (fV 0) fA0)) (fA (fL (on1 lstD) (fA (fV 0) fA0)) (fA (f2 addD (fV 0) (fSl (fV 0) fO0 (fO (fC (.int 1))))) fA0)))) (gN 2))
  (fRet (f2 ixD (f2 addD (fV 2) (fLst (fA (fSl (fV 0) (fO (fC (.int 1))) fO0) (fA (fLst (fA (fV 0) fA0)) fA0)))) (f2 modD (fV 1) (fC (.int 5)))))) fNext)
  (fSeq (fIf (fB (f1 (fun d => some (.bool (isBoolD d))) (fV 0))) (fRet (f2 ixD (fLst (fA (fL (on1 intD) (fA (fV 0) fA0)) (fA (fC .none) (fA (fL (on1 strD) (fA (fV 0) fA0)) fA0)))) (f2 modD (fV 1) (fC (.int 3))))) fNext)
  (fSeq (fIf (fB (f1 (fun d => some (.bool (isIntD d))) (fV 0))) (fSeq (fAsg (fLst (fA (fC (.bool true)) (fA (fC .none) (fA (fL (on1 strD) (fA (fV 0) fA0)) (fA (fTup (fA (fV 0) fA0)) fA0))))) (gN 2))
  (fRet (f2 ixD (f2 addD (fV 2) (fLst (fA (f2 subD (f1 negD (fC (.int 1))) (fV 0)) fA0))) (f2 modD (fV 1) (fC (.int 5)))))) fNext)
  (fRet (f2 ixD (fLst (fA (fC .none) (fA (fTup (fA (fV 0) fA0)) (fA (fLst (fA (fV 0) fA0)) (fA (fC (.str "")) (fA (fC (.int 0)) fA0)))))) (f2 modD (fV 1) (fC (.int 5))))))))
def F__law_otherwise : List PyData → Option PyData := runB 2 3 B__law_otherwise
def B_is_over : En → Out :=
  (fRet (f1 (fun d => some (.bool (isStrD d))) (fV 0)))
def F_is_over : List PyData → Option PyData := runB 1 1 B_is_over
def B_grouped : En → Out :=
  (fSeq (fIf (fB (f2 eqP (fL (on1 lenD) (fA (fV 1) fA0)) (fC (.int 1)))) (fRet (f2 ixD (fV 1) (fC (.int 0)))) fNext)
  (fRet (fTup (fA (fV 0) (fA (fL (on1 tupD) (fA (fV 1) fA0)) fA0)))))
def F_grouped : List PyData → Option PyData := runB 2 2 B_grouped
def B_group_behind (r : Nat → List PyData → Option PyData) : En → Out :=
  (fSeq (fAsg (fTup (fA (fC (.str "done")) (fA (fC (.str "failed")) fA0))) (gT (gsC (gN 2) (gsC (gN 3) gs0)) 2))
  (fSeq (fIf (fB (f2 eqP (f2 ixD (fV 0) (fC (.int 0))) (fC (.str "any")))) (fAsg (fTup (fA (fC (.str "failed")) (fA (fC (.str "done")) fA0))) (gT (gsC (gN 2) (gsC (gN 3) gs0)) 2)) fNext)
  (fSeq (fAsg (fComp [6] (fItems (f2 ixD (fV 0) (fC (.int 1)))) (gN 6) fYes (fL (r 2) (fA (fV 6) (fA (fV 1) fA0)))) (gN 4))
  (fSeq (fIf (fB (f2 inP (fV 3) (fV 4))) (fRet (fV 3)) fNext)
  (fSeq (fAsg (fComp [7] (fItems (fV 4)) (gN 7) (fB (f2 neP (fV 7) (fV 2))) (fV 7)) (gN 5))
  (fSeq (fIf (fB (f2 eqP (fL (on1 lenD) (fA (fV 5) fA0)) (fC (.int 0)))) (fRet (fV 2)) fNext)
  (fRet (fL F_grouped (fA (f2 ixD (fV 0) (fC (.int 0))) (fA (fV 5) fA0))))))))))
def B_then_behind (r : Nat → List PyData → Option PyData) : En → Out :=
  (fSeq (fAsg (fL (r 2) (fA (f2 ixD (f2 ixD (fV 0) (fC (.int 1))) (fC (.int 0))) (fA (fV 1) fA0))) (gN 2))
  (fSeq (fIf (fB (f2 eqP (fV 2) (fC (.str "failed")))) (fRet (fC (.str "failed"))) fNext)
  (fSeq (fAsg (fL (on1 lstD) (fA (fSl (f2 ixD (fV 0) (fC (.int 1))) (fO (fC (.int 1))) fO0) fA0)) (gN 3))
  (fSeq (fIf (fB (f2 neP (fV 2) (fC (.str "done")))) (fRet (fL F_grouped (fA (fC (.str "then")) (fA (f2 addD (fLst (fA (fV 2) fA0)) (fV 3)) fA0)))) fNext)
  (fSeq (fIf (fB (f2 eqP (fL (on1 lenD) (fA (fV 3) fA0)) (fC (.int 0)))) (fRet (fC (.str "done"))) fNext)
  (fRet (fL F_grouped (fA (fC (.str "then")) (fA (fV 3) fA0)))))))))
def B_behind (r : Nat → List PyData → Option PyData) : En → Out :=
  (fSeq (fAsg (f2 ixD (fV 0) (fC (.int 0))) (gN 2))
  (fSeq (fIf (fB (f2 eqP (fV 2) (fC (.str "do")))) (fSeq (fIf (fB (f2 neP (fV 1) (f2 ixD (fV 0) (fC (.int 1))))) (fRet (fV 0)) fNext)
  (fSeq (fIf (fB (f2 eqP (f2 ixD (fV 0) (fC (.int 2))) (fC (.int 1)))) (fRet (fC (.str "done"))) fNext)
  (fRet (fTup (fA (fV 2) (fA (fV 1) (fA (f2 subD (f2 ixD (fV 0) (fC (.int 2))) (fC (.int 1))) fA0))))))) fNext)
  (fSeq (fIf (fB (f2 inP (fV 2) (fTup (fA (fC (.str "all")) (fA (fC (.str "any")) fA0))))) (fRet (fL (r 0) (fA (fV 0) (fA (fV 1) fA0)))) fNext)
  (fSeq (fIf (fB (f2 eqP (fV 2) (fC (.str "then")))) (fRet (fL (r 1) (fA (fV 0) (fA (fV 1) fA0)))) fNext)
  (fSeq (fIf (fAnd (fB (f2 eqP (fV 2) (fC (.str "without")))) (fB (f2 eqP (fV 1) (f2 ixD (fV 0) (fC (.int 1)))))) (fRet (fC (.str "failed"))) fNext)
  (fSeq (fAsg (fL (r 2) (fA (f2 ixD (fV 0) (fC (.int 2))) (fA (fV 1) fA0))) (gN 3))
  (fSeq (fIf (fB (fL F_is_over (fA (fV 3) fA0))) (fRet (fV 3)) fNext)
  (fSeq (fIf (fB (f2 eqP (fV 2) (fC (.str "without")))) (fRet (fTup (fA (fV 2) (fA (f2 ixD (fV 0) (fC (.int 1))) (fA (fV 3) fA0))))) fNext)
  (fSeq (fIf (fB (f2 eqP (f2 ixD (fV 0) (fC (.int 1))) (fC (.int 1)))) (fRet (fC (.str "failed"))) fNext)
  (fRet (fTup (fA (fV 2) (fA (f2 subD (f2 ixD (fV 0) (fC (.int 1))) (fC (.int 1))) (fA (fV 3) fA0))))))))))))))
def G_group_behind : Nat → Nat → List PyData → Option PyData
  | 0 => fun _ _ => none
  | n + 1 => fun k => match k with
    | 0 => runB 2 8 (B_group_behind (G_group_behind n))
    | 1 => runB 2 4 (B_then_behind (G_group_behind n))
    | _ => runB 2 4 (B_behind (G_group_behind n))
def F_group_behind : List PyData → Option PyData := G_group_behind fuel 0
def F_then_behind : List PyData → Option PyData := G_group_behind fuel 1
def F_behind : List PyData → Option PyData := G_group_behind fuel 2
def B_told : En → Out :=
  (fSeq (fFor (fEnum (fA (fV 1) fA0)) (gT (gsC (gN 2) (gsC (gN 3) gs0)) 2) (fSeq (fAsg (fL F_behind (fA (fV 0) (fA (fV 3) fA0))) (gN 0))
  (fIf (fB (fL F_is_over (fA (fV 0) fA0))) (fRet (fTup (fA (fV 0) (fA (f2 addD (fV 2) (fC (.int 1))) fA0)))) fNext)))
  (fRet (fTup (fA (fV 0) (fA (fC .none) fA0)))))
def F_told : List PyData → Option PyData := runB 2 4 B_told
def B__law_group : En → Out :=
  (fSeq (fIf (fB (f2 eqP (fL (on1 lenD) (fA (fV 1) fA0)) (fC (.int 1)))) (fRet (f2 ixD (fV 1) (fC (.int 0)))) fNext)
  (fRet (fTup (fA (fV 0) (fA (fL (on1 tupD) (fA (fV 1) fA0)) fA0)))))
def F__law_group : List PyData → Option PyData := runB 2 2 B__law_group
def B__law_kept : En → Out :=
  (fSeq (fIf (fB (f1 (fun d => some (.bool (isStrD d))) (fV 1))) (fRet (fV 1)) fNext)
  (fRet (f2 addD (fV 0) (fTup (fA (fV 1) fA0)))))
def F__law_kept : List PyData → Option PyData := runB 2 2 B__law_kept
def B__law_behind (r : Nat → List PyData → Option PyData) : En → Out :=
  (fSeq (fAsg (f2 ixD (fV 0) (fC (.int 0))) (gN 2))
  (fSeq (fIf (fB (f2 eqP (fV 2) (fC (.str "do")))) (fSeq (fIf (fB (f2 eqP (fV 1) (f2 ixD (fV 0) (fC (.int 1))))) (fRet (f2 ixD (fLst (fA (fTup (fA (fV 2) (fA (fV 1) (fA (f2 subD (f2 ixD (fV 0) (fC (.int 2))) (fC (.int 1))) fA0)))) (fA (fC (.str "done")) fA0))) (fL (on1 intD) (fA (f2 eqP (f2 ixD (fV 0) (fC (.int 2))) (fC (.int 1))) fA0)))) fNext)
  (fRet (fV 0))) fNext)
  (fSeq (fIf (fB (f2 eqP (fV 2) (fC (.str "then")))) (fSeq (fAsg (fL (r 0) (fA (f2 ixD (f2 ixD (fV 0) (fC (.int 1))) (fC (.int 0))) (fA (fV 1) fA0))) (gN 3))
  (fSeq (fIf (fB (f2 eqP (fV 3) (fC (.str "failed")))) (fRet (fV 3)) fNext)
  (fSeq (fAsg (fL (on1 lstD) (fA (fSl (f2 ixD (fV 0) (fC (.int 1))) (fO (fC (.int 1))) fO0) fA0)) (gN 4))
  (fSeq (fIf (fB (f2 neP (fV 3) (fC (.str "done")))) (fAsg (f2 addD (fLst (fA (fV 3) fA0)) (fV 4)) (gN 4)) fNext)
  (fRet (fL F__law_group (fA (fV 2) (fA (fV 4) fA0)))))))) fNext)
  (fSeq (fIf (fB (f2 inP (fV 2) (fTup (fA (fC (.str "all")) (fA (fC (.str "any")) fA0))))) (fSeq (fAsg (fComp [10] (fItems (f2 ixD (fV 0) (fC (.int 1)))) (gN 10) fYes (fL (r 0) (fA (fV 10) (fA (fV 1) fA0)))) (gN 5))
  (fSeq (fAsg (f2 ixD (fLst (fA (fTup (fA (fC (.str "failed")) (fA (fC (.str "done")) fA0))) (fA (fTup (fA (fC (.str "done")) (fA (fC (.str "failed")) fA0))) fA0))) (fL (on1 intD) (fA (f2 eqP (fV 2) (fC (.str "any"))) fA0))) (gT (gsC (gN 6) (gsC (gN 7) gs0)) 2))
  (fSeq (fIf (fB (f2 inP (fV 6) (fV 5))) (fRet (fV 6)) fNext)
  (fSeq (fAsg (fComp [9] (fItems (fV 5)) (gN 9) (fB (f2 neP (fV 9) (fV 7))) (fV 9)) (gN 8))
  (fSeq (fIf (fB (f2 eqP (fV 8) (fLst fA0))) (fRet (fV 7)) fNext)
  (fRet (fL F__law_group (fA (fV 2) (fA (fV 8) fA0))))))))) fNext)
  (fSeq (fAsg (fL (r 0) (fA (f2 ixD (fV 0) (fC (.int 2))) (fA (fV 1) fA0))) (gN 9))
  (fSeq (fIf (fB (f2 eqP (fV 2) (fC (.str "without")))) (fSeq (fIf (fB (f2 eqP (fV 1) (f2 ixD (fV 0) (fC (.int 1))))) (fRet (fC (.str "failed"))) fNext)
  (fRet (fL F__law_kept (fA (fSl (fV 0) fO0 (fO (fC (.int 2)))) (fA (fV 9) fA0))))) fNext)
  (fSeq (fIf (fAnd (fNot (fB (f1 (fun d => some (.bool (isStrD d))) (fV 9)))) (fB (f2 eqP (f2 ixD (fV 0) (fC (.int 1))) (fC (.int 1))))) (fRet (fC (.str "failed"))) fNext)
  (fRet (fL F__law_kept (fA (fTup (fA (fV 2) (fA (f2 subD (f2 ixD (fV 0) (fC (.int 1))) (fC (.int 1))) fA0))) (fA (fV 9) fA0)))))))))))
def G__law_behind : Nat → Nat → List PyData → Option PyData
  | 0 => fun _ _ => none
  | n + 1 => fun k => match k with
    | _ => runB 2 11 (B__law_behind (G__law_behind n))
def F__law_behind : List PyData → Option PyData := G__law_behind fuel 0
def B__law_when_group : En → Out :=
  (fSeq (fAsg (f2 ixD (fLst (fA (fTup (fA (fC (.str "failed")) (fA (fC (.str "done")) fA0))) (fA (fTup (fA (fC (.str "done")) (fA (fC (.str "failed")) fA0))) fA0))) (fL (on1 intD) (fA (f2 eqP (fV 0) (fC (.str "any"))) fA0))) (gT (gsC (gN 2) (gsC (gN 3) gs0)) 2))
  (fSeq (fAsg (fComp [5] (fItems (fV 1)) (gN 5) (fAnd (fB (f1 (fun d => some (.bool (!isNone d))) (fV 5))) (fB (f2 eqP (f2 ixD (fV 5) (fC (.int 0))) (fV 2)))) (f2 ixD (fV 5) (fC (.int 1)))) (gN 4))
  (fSeq (fIf (fB (f2 neP (fV 4) (fLst fA0))) (fRet (fTup (fA (fV 2) (fA (fL (on1 minLD) (fA (fV 4) fA0)) fA0)))) fNext)
  (fSeq (fIf (fB (f2 inP (fC .none) (fV 1))) (fRet (fC .none)) fNext)
  (fRet (fTup (fA (fV 3) (fA (fL (on1 maxLD) (fA (fComp [5] (fItems (fV 1)) (gN 5) fYes (f2 ixD (fV 5) (fC (.int 1)))) fA0)) fA0))))))))
def F__law_when_group : List PyData → Option PyData := runB 2 6 B__law_when_group
def B__law_when (r : Nat → List PyData → Option PyData) : En → Out :=
  (fSeq (fAsg (f2 ixD (fV 0) (fC (.int 0))) (gN 3))
  (fSeq (fIf (fB (f2 eqP (fV 3) (fC (.str "do")))) (fSeq (fAsg (fComp [8] (fRng2 (fA (fV 2) (fA (fL (on1 lenD) (fA (fV 1) fA0)) fA0))) (gN 8) (fB (f2 eqP (f2 ixD (fV 1) (fV 8)) (f2 ixD (fV 0) (fC (.int 1))))) (f2 addD (fV 8) (fC (.int 1)))) (gN 4))
  (fSeq (fIf (fB (f2 ltD (fL (on1 lenD) (fA (fV 4) fA0)) (f2 ixD (fV 0) (fC (.int 2))))) (fRet (fC .none)) fNext)
  (fRet (fTup (fA (fC (.str "done")) (fA (f2 ixD (fV 4) (f2 subD (f2 ixD (fV 0) (fC (.int 2))) (fC (.int 1)))) fA0)))))) fNext)
  (fSeq (fIf (fB (f2 inP (fV 3) (fTup (fA (fC (.str "all")) (fA (fC (.str "any")) fA0))))) (fRet (fL F__law_when_group (fA (fV 3) (fA (fComp [6] (fItems (f2 ixD (fV 0) (fC (.int 1)))) (gN 6) fYes (fL (r 0) (fA (fV 6) (fA (fV 1) (fA (fV 2) fA0))))) fA0)))) fNext)
  (fSeq (fIf (fB (f2 eqP (fV 3) (fC (.str "then")))) (fSeq (fAsg (fTup (fA (fC (.str "done")) (fA (fV 2) fA0))) (gN 5))
  (fSeq (fFor (fItems (f2 ixD (fV 0) (fC (.int 1)))) (gN 6) (fSeq (fAsg (fL (r 0) (fA (fV 6) (fA (fV 1) (fA (f2 ixD (fV 5) (fC (.int 1))) fA0)))) (gN 5))
  (fIf (fOr (fB (f1 (fun d => some (.bool (isNone d))) (fV 5))) (fB (f2 eqP (f2 ixD (fV 5) (fC (.int 0))) (fC (.str "failed"))))) (fRet (fV 5)) fNext)))
  (fRet (fV 5)))) fNext)
  (fSeq (fAsg (fL (r 0) (fA (f2 ixD (fV 0) (fC (.int 2))) (fA (fV 1) (fA (fV 2) fA0)))) (gN 5))
  (fSeq (fIf (fB (f2 eqP (fV 3) (fC (.str "without")))) (fSeq (fAsg (fComp [8] (fRng2 (fA (fV 2) (fA (fL (on1 lenD) (fA (fV 1) fA0)) fA0))) (gN 8) (fB (f2 eqP (f2 ixD (fV 1) (fV 8)) (f2 ixD (fV 0) (fC (.int 1))))) (f2 addD (fV 8) (fC (.int 1)))) (gN 4))
  (fSeq (fIf (fAnd (fB (f2 neP (fV 4) (fLst fA0))) (fOr (fB (f1 (fun d => some (.bool (isNone d))) (fV 5))) (fB (f2 leD (f2 ixD (fV 4) (fC (.int 0))) (f2 ixD (fV 5) (fC (.int 1))))))) (fRet (fTup (fA (fC (.str "failed")) (fA (f2 ixD (fV 4) (fC (.int 0))) fA0)))) fNext)
  (fRet (fV 5)))) fNext)
  (fSeq (fAsg (f2 addD (fV 2) (f2 ixD (fV 0) (fC (.int 1)))) (gN 7))
  (fSeq (fIf (fAnd (fB (f1 (fun d => some (.bool (!isNone d))) (fV 5))) (fB (f2 leD (f2 ixD (fV 5) (fC (.int 1))) (fV 7)))) (fRet (fV 5)) fNext)
  (fRet (f2 ixD (fLst (fA (fC .none) (fA (fTup (fA (fC (.str "failed")) (fA (fV 7) fA0))) fA0))) (fL (on1 intD) (fA (f2 leD (fV 7) (fL (on1 lenD) (fA (fV 1) fA0))) fA0))))))))))))
def G__law_when : Nat → Nat → List PyData → Option PyData
  | 0 => fun _ _ => none
  | n + 1 => fun k => match k with
    | _ => runB 3 9 (B__law_when (G__law_when n))
def F__law_when : List PyData → Option PyData := G__law_when fuel 0
def B__law_end : En → Out :=
  (fSeq (fAsg (fL F_told (fA (fV 0) (fA (fV 1) fA0))) (gT (gsC (gN 2) (gsC (gN 3) gs0)) 2))
  (fSeq (fIf (fB (f1 (fun d => some (.bool (isStrD d))) (fV 2))) (fRet (fTup (fA (fV 2) (fA (fV 3) fA0)))) fNext)
  (fRet (fC .none))))
def F__law_end : List PyData → Option PyData := runB 2 4 B__law_end
def B__law_called (r : Nat → List PyData → Option PyData) : En → Out :=
  (fSeq (fIf (fB (f2 inP (f2 ixD (fV 0) (fC (.int 0))) (fTup (fA (fC (.str "do")) (fA (fC (.str "without")) fA0))))) (fSeq (fAsg (fTup (fA (f2 ixD (fV 0) (fC (.int 0))) (fA (f3 getD (fV 1) (f2 ixD (fV 0) (fC (.int 1))) (f2 ixD (fV 0) (fC (.int 1)))) fA0))) (gN 2))
  (fSeq (fIf (fB (f2 eqP (f2 ixD (fV 0) (fC (.int 0))) (fC (.str "do")))) (fRet (f2 addD (fV 2) (fSl (fV 0) (fO (fC (.int 2))) fO0))) fNext)
  (fRet (f2 addD (fV 2) (fTup (fA (fL (r 0) (fA (f2 ixD (fV 0) (fC (.int 2))) (fA (fV 1) fA0))) fA0)))))) fNext)
  (fSeq (fIf (fB (f2 eqP (f2 ixD (fV 0) (fC (.int 0))) (fC (.str "within")))) (fRet (f2 addD (fSl (fV 0) fO0 (fO (fC (.int 2)))) (fTup (fA (fL (r 0) (fA (f2 ixD (fV 0) (fC (.int 2))) (fA (fV 1) fA0))) fA0)))) fNext)
  (fRet (fTup (fA (f2 ixD (fV 0) (fC (.int 0))) (fA (fL (on1 tupD) (fA (fComp [3] (fItems (f2 ixD (fV 0) (fC (.int 1)))) (gN 3) fYes (fL (r 0) (fA (fV 3) (fA (fV 1) fA0)))) fA0)) fA0))))))
def G__law_called : Nat → Nat → List PyData → Option PyData
  | 0 => fun _ _ => none
  | n + 1 => fun k => match k with
    | _ => runB 2 4 (B__law_called (G__law_called n))
def F__law_called : List PyData → Option PyData := G__law_called fuel 0
def B__law_has_within (r : Nat → List PyData → Option PyData) : En → Out :=
  (fSeq (fIf (fB (f2 eqP (f2 ixD (fV 0) (fC (.int 0))) (fC (.str "do")))) (fRet (fC (.bool false))) fNext)
  (fSeq (fIf (fB (f2 inP (f2 ixD (fV 0) (fC (.int 0))) (fTup (fA (fC (.str "without")) (fA (fC (.str "within")) fA0))))) (fRet (fOrV (f2 eqP (f2 ixD (fV 0) (fC (.int 0))) (fC (.str "within"))) (fL (r 0) (fA (f2 ixD (fV 0) (fC (.int 2))) fA0)))) fNext)
  (fRet (f2 neP (fComp [1] (fItems (f2 ixD (fV 0) (fC (.int 1)))) (gN 1) (fB (fL (r 0) (fA (fV 1) fA0))) (fV 1)) (fLst fA0)))))
def G__law_has_within : Nat → Nat → List PyData → Option PyData
  | 0 => fun _ _ => none
  | n + 1 => fun k => match k with
    | _ => runB 1 2 (B__law_has_within (G__law_has_within n))
def F__law_has_within : List PyData → Option PyData := G__law_has_within fuel 0
def B__wall : En → Out :=
  (loopW (fB (fC (.bool true))) fNext wfuel)
def F__wall : List PyData → Option PyData := runB 1 1 B__wall
def B_with_tasks : En → Out :=
  (fSeq (fIf (fB (f2 inP (f2 ixD (fV 0) (fC (.int 0))) (fC (.tuple [(.str "all"), (.str "any"), (.str "then")])))) (fRet (fTup (fA (f2 ixD (fV 0) (fC (.int 0))) (fA (fL (on1 tupD) (fA (fV 1) fA0)) fA0)))) fNext)
  (fSeq (fIf (fB (f2 eqP (f2 ixD (fV 0) (fC (.int 0))) (fC (.str "do")))) (fRet (fV 0)) fNext)
  (fRet (f2 addD (fSl (fV 0) fO0 (fO (fC (.int 2)))) (fL (on1 tupD) (fA (fV 1) fA0))))))
def F_with_tasks : List PyData → Option PyData := runB 2 2 B_with_tasks
def B_other_deed : En → Out :=
  (fSeq (fAsg (fLst fA0) (gN 1))
  (fSeq (fFor (fSigns (fC (.str "abcdefghijklmnopqrstuvwxyz"))) (gN 2) (fExt 1 (fComp [3] (fSigns (fC (.str "abcdefghijklmnopqrstuvwxyz"))) (gN 3) (fB (f2 niP (f2 addD (fV 2) (fV 3)) (fV 0))) (f2 addD (fV 2) (fV 3)))))
  (fRet (f2 ixD (fV 1) (fC (.int 0))))))
def F_other_deed : List PyData → Option PyData := runB 1 4 B_other_deed
def B_flat : En → Out :=
  (fSeq (fAsg (fLst fA0) (gN 2))
  (fSeq (fFor (fItems (fV 1)) (gN 3) (fIf (fB (f2 eqP (f2 ixD (fV 3) (fC (.int 0))) (fV 0))) (fExt 2 (fL (on1 lstD) (fA (f2 ixD (fV 3) (fC (.int 1))) fA0))) (fApp 2 (fV 3))))
  (fRet (fV 2))))
def F_flat : List PyData → Option PyData := runB 2 4 B_flat
def B_unlike_ones : En → Out :=
  (fSeq (fAsg (fLst fA0) (gN 1))
  (fSeq (fFor (fItems (fV 0)) (gN 2) (fIf (fB (f2 niP (fV 2) (fV 1))) (fApp 1 (fV 2)) fNext))
  (fRet (fV 1))))
def F_unlike_ones : List PyData → Option PyData := runB 1 3 B_unlike_ones
def B_once (r : Nat → List PyData → Option PyData) : En → Out :=
  (fSeq (fAsg (fComp [3] (fItems (fL F_tasks_in (fA (fV 0) fA0))) (gN 3) fYes (fL (r 0) (fA (fV 3) fA0))) (gN 1))
  (fSeq (fAsg (f2 ixD (fV 0) (fC (.int 0))) (gN 2))
  (fSeq (fIf (fB (f2 inP (fV 2) (fC (.tuple [(.str "all"), (.str "any"), (.str "then")])))) (fSeq (fAsg (fL F_flat (fA (fV 2) (fA (fV 1) fA0))) (gN 1))
  (fSeq (fIf (fB (f2 neP (fV 2) (fC (.str "then")))) (fAsg (fL F_unlike_ones (fA (fV 1) fA0)) (gN 1)) fNext)
  (fSeq (fIf (fB (f2 eqP (fL (on1 lenD) (fA (fV 1) fA0)) (fC (.int 1)))) (fRet (f2 ixD (fV 1) (fC (.int 0)))) fNext)
  (fRet (fTup (fA (fV 2) (fA (fL (on1 tupD) (fA (fV 1) fA0)) fA0))))))) fNext)
  (fSeq (fIf (fAnd (fB (f2 eqP (fV 2) (fC (.str "without")))) (fB (f2 eqP (fSl (f2 ixD (fV 1) (fC (.int 0))) fO0 (fO (fC (.int 2)))) (fSl (fV 0) fO0 (fO (fC (.int 2))))))) (fRet (f2 ixD (fV 1) (fC (.int 0)))) fNext)
  (fSeq (fIf (fAnd (fB (f2 eqP (fV 2) (fC (.str "within")))) (fB (f2 eqP (f2 ixD (f2 ixD (fV 1) (fC (.int 0))) (fC (.int 0))) (fV 2)))) (fRet (fTup (fA (fV 2) (fA (fL (on2 minD) (fA (f2 ixD (fV 0) (fC (.int 1))) (fA (f2 ixD (f2 ixD (fV 1) (fC (.int 0))) (fC (.int 1))) fA0))) (fA (f2 ixD (f2 ixD (fV 1) (fC (.int 0))) (fC (.int 2))) fA0))))) fNext)
  (fRet (fL F_with_tasks (fA (fV 0) (fA (fV 1) fA0)))))))))
def G_once : Nat → Nat → List PyData → Option PyData
  | 0 => fun _ _ => none
  | n + 1 => fun k => match k with
    | _ => runB 1 4 (B_once (G_once n))
def F_once : List PyData → Option PyData := G_once fuel 0
def B_short : En → Out :=
  (fSeq (fAsg (fL F_once (fA (fV 0) fA0)) (gN 1))
  (fSeq (loopW (fB (f2 neP (fV 1) (fV 0))) (fSeq (fAsg (fV 1) (gN 0))
  (fAsg (fL F_once (fA (fV 0) fA0)) (gN 1))) wfuel)
  (fRet (fV 0))))
def F_short : List PyData → Option PyData := runB 1 2 B_short
def B_is_short : En → Out :=
  (fRet (f2 eqP (fL F_once (fA (fV 0) fA0)) (fV 0)))
def F_is_short : List PyData → Option PyData := runB 1 1 B_is_short
def B__law_named (r : Nat → List PyData → Option PyData) : En → Out :=
  (fSeq (fIf (fB (f2 eqP (f2 ixD (fV 0) (fC (.int 0))) (fC (.str "do")))) (fRet (fLst (fA (f2 ixD (fV 0) (fC (.int 1))) fA0))) fNext)
  (fSeq (fIf (fB (f2 eqP (f2 ixD (fV 0) (fC (.int 0))) (fC (.str "without")))) (fRet (f2 addD (fLst (fA (f2 ixD (fV 0) (fC (.int 1))) fA0)) (fL (r 0) (fA (f2 ixD (fV 0) (fC (.int 2))) fA0)))) fNext)
  (fSeq (fIf (fB (f2 eqP (f2 ixD (fV 0) (fC (.int 0))) (fC (.str "within")))) (fRet (fL (r 0) (fA (f2 ixD (fV 0) (fC (.int 2))) fA0))) fNext)
  (fSeq (fAsg (fLst fA0) (gN 1))
  (fSeq (fFor (fItems (f2 ixD (fV 0) (fC (.int 1)))) (gN 2) (fAsg (f2 addD (fV 1) (fL (r 0) (fA (fV 2) fA0))) (gN 1)))
  (fRet (fV 1)))))))
def G__law_named : Nat → Nat → List PyData → Option PyData
  | 0 => fun _ _ => none
  | n + 1 => fun k => match k with
    | _ => runB 1 3 (B__law_named (G__law_named n))
def F__law_named : List PyData → Option PyData := G__law_named fuel 0
def B__law_way : En → Out :=
  (fSeq (fAsg (fLst (fA (fV 0) fA0)) (gN 3))
  (fSeq (fAsg (fLst (fA (fV 0) fA0)) (gN 4))
  (fSeq (fAsg (fC (.int 0)) (gN 5))
  (fSeq (loopW (fB (f2 neP (fV 4) (fLst fA0))) (fSeq (fAsg (f2 addD (fV 5) (fC (.int 1))) (gN 5))
  (fSeq (fAsg (fLst fA0) (gN 6))
  (fSeq (fFor (fItems (fV 4)) (gN 7) (fFor (fItems (fV 1)) (gN 8) (fSeq (fAsg (fL F__law_behind (fA (fV 7) (fA (fV 8) fA0))) (gN 9))
  (fSeq (fIf (fB (f2 eqP (fV 9) (fV 2))) (fRet (fV 5)) fNext)
  (fIf (fAnd (fNot (fB (f1 (fun d => some (.bool (isStrD d))) (fV 9)))) (fB (f2 niP (fV 9) (fV 3)))) (fSeq (fApp 3 (fV 9))
  (fApp 6 (fV 9))) fNext)))))
  (fAsg (fV 6) (gN 4))))) wfuel)
  (fRet (fC .none))))))
def F__law_way : List PyData → Option PyData := runB 3 10 B__law_way
def B__law_two (r : Nat → List PyData → Option PyData) : En → Out :=
  (fSeq (fIf (fB (f2 eqP (f2 ixD (fV 0) (fC (.int 0))) (fC (.str "do")))) (fRet (fTup (fA (fC (.str "do")) (fA (f2 dixD (fV 1) (f2 ixD (fV 0) (fC (.int 1)))) (fA (f2 ixD (fV 0) (fC (.int 2))) fA0))))) fNext)
  (fSeq (fIf (fB (f2 eqP (f2 ixD (fV 0) (fC (.int 0))) (fC (.str "without")))) (fRet (fTup (fA (fC (.str "without")) (fA (f2 dixD (fV 1) (f2 ixD (fV 0) (fC (.int 1)))) (fA (fL (r 0) (fA (f2 ixD (fV 0) (fC (.int 2))) (fA (fV 1) fA0))) fA0))))) fNext)
  (fSeq (fIf (fB (f2 eqP (f2 ixD (fV 0) (fC (.int 0))) (fC (.str "within")))) (fRet (fTup (fA (fC (.str "within")) (fA (f2 ixD (fV 0) (fC (.int 1))) (fA (fL (r 0) (fA (f2 ixD (fV 0) (fC (.int 2))) (fA (fV 1) fA0))) fA0))))) fNext)
  (fRet (fTup (fA (f2 ixD (fV 0) (fC (.int 0))) (fA (fL (on1 tupD) (fA (fComp [2] (fItems (f2 ixD (fV 0) (fC (.int 1)))) (gN 2) fYes (fL (r 0) (fA (fV 2) (fA (fV 1) fA0)))) fA0)) fA0)))))))
def G__law_two : Nat → Nat → List PyData → Option PyData
  | 0 => fun _ _ => none
  | n + 1 => fun k => match k with
    | _ => runB 2 3 (B__law_two (G__law_two n))
def F__law_two : List PyData → Option PyData := G__law_two fuel 0
def B__law_rest : En → Out :=
  (fSeq (fIf (fB (f2 eqP (fL (on1 lenD) (fA (fV 0) fA0)) (fC (.int 1)))) (fRet (f2 ixD (fV 0) (fC (.int 0)))) fNext)
  (fRet (fTup (fA (fC (.str "then")) (fA (fV 0) fA0)))))
def F__law_rest : List PyData → Option PyData := runB 1 1 B__law_rest
def B__law_other : En → Out :=
  (fSeq (fAsg (f2 modD (fV 1) (fC (.int 8))) (gN 2))
  (fSeq (fIf (fB (f2 eqP (fV 2) (fC (.int 0)))) (fRet (fTup (fA (fC (.str "all")) (fA (fTup (fA (fV 0) (fA (fV 0) fA0))) fA0)))) fNext)
  (fSeq (fIf (fB (f2 eqP (fV 2) (fC (.int 1)))) (fRet (fTup (fA (fC (.str "any")) (fA (fTup (fA (fTup (fA (fC (.str "any")) (fA (fTup (fA (fV 0) fA0)) fA0))) (fA (fV 0) fA0))) fA0)))) fNext)
  (fSeq (fIf (fB (f2 eqP (fV 2) (fC (.int 2)))) (fRet (fTup (fA (fC (.str "within")) (fA (f2 addD (fC (.int 1)) (f2 modD (f2 fdvD (fV 1) (fC (.int 8))) (fC (.int 9)))) (fA (fV 0) fA0))))) fNext)
  (fSeq (fIf (fB (f2 eqP (fV 2) (fC (.int 3)))) (fRet (fTup (fA (fC (.str "without")) (fA (f2 ixD (fC (.str "abcd")) (f2 modD (f2 fdvD (fV 1) (fC (.int 8))) (fC (.int 4)))) (fA (fV 0) fA0))))) fNext)
  (fSeq (fIf (fAnd (fB (f2 eqP (fV 2) (fC (.int 4)))) (fB (f2 inP (f2 ixD (fV 0) (fC (.int 0))) (fTup (fA (fC (.str "all")) (fA (fC (.str "any")) fA0)))))) (fRet (fTup (fA (f2 ixD (fV 0) (fC (.int 0))) (fA (f1 revD (f2 ixD (fV 0) (fC (.int 1)))) fA0)))) fNext)
  (fSeq (fIf (fAnd (fB (f2 eqP (fV 2) (fC (.int 5)))) (fB (f2 eqP (f2 ixD (fV 0) (fC (.int 0))) (fC (.str "then"))))) (fRet (fTup (fA (fC (.str "then")) (fA (fTup (fA (f2 ixD (f2 ixD (fV 0) (fC (.int 1))) (fC (.int 0))) (fA (fL F__law_rest (fA (fSl (f2 ixD (fV 0) (fC (.int 1))) (fO (fC (.int 1))) fO0) fA0)) fA0))) fA0)))) fNext)
  (fSeq (fIf (fAnd (fB (f2 eqP (fV 2) (fC (.int 6)))) (fAnd (fB (f2 eqP (f2 ixD (fV 0) (fC (.int 0))) (fC (.str "do")))) (fB (f2 gtD (f2 ixD (fV 0) (fC (.int 2))) (fC (.int 1)))))) (fRet (fTup (fA (fC (.str "then")) (fA (fTup (fA (fTup (fA (fC (.str "do")) (fA (f2 ixD (fV 0) (fC (.int 1))) (fA (fC (.int 1)) fA0)))) (fA (fTup (fA (fC (.str "do")) (fA (f2 ixD (fV 0) (fC (.int 1))) (fA (f2 subD (f2 ixD (fV 0) (fC (.int 2))) (fC (.int 1))) fA0)))) fA0))) fA0)))) fNext)
  (fRet (fL F__law_task (fA (f2 fdvD (fV 1) (fC (.int 8))) (fA (fC (.int 2)) (fA (fC (.int 2)) fA0)))))))))))))
def F__law_other : List PyData → Option PyData := runB 2 3 B__law_other
def B__law_unlike : En → Out :=
  (fSeq (fAsg (fLst (fA (fTup (fA (fV 0) (fA (fV 1) fA0))) fA0)) (gN 3))
  (fSeq (fAsg (fLst (fA (fTup (fA (fV 0) (fA (fV 1) fA0))) fA0)) (gN 4))
  (fSeq (fAsg (fC (.int 0)) (gN 5))
  (fSeq (loopW (fB (f2 neP (fV 4) (fLst fA0))) (fSeq (fAsg (f2 addD (fV 5) (fC (.int 1))) (gN 5))
  (fSeq (fAsg (fLst fA0) (gN 6))
  (fSeq (fFor (fItems (fV 4)) (gN 7) (fFor (fItems (fV 2)) (gN 8) (fSeq (fAsg (fTup (fA (fL F__law_behind (fA (f2 ixD (fV 7) (fC (.int 0))) (fA (fV 8) fA0))) (fA (fL F__law_behind (fA (f2 ixD (fV 7) (fC (.int 1))) (fA (fV 8) fA0))) fA0))) (gN 9))
  (fIf (fOr (fB (f1 (fun d => some (.bool (isStrD d))) (f2 ixD (fV 9) (fC (.int 0))))) (fB (f1 (fun d => some (.bool (isStrD d))) (f2 ixD (fV 9) (fC (.int 1)))))) (fIf (fB (f2 neP (f2 ixD (fV 9) (fC (.int 0))) (f2 ixD (fV 9) (fC (.int 1))))) (fRet (fV 5)) fNext) (fIf (fB (f2 niP (fV 9) (fV 3))) (fSeq (fApp 3 (fV 9))
  (fApp 6 (fV 9))) fNext)))))
  (fAsg (fV 6) (gN 4))))) wfuel)
  (fRet (fC .none))))))
def F__law_unlike : List PyData → Option PyData := runB 3 10 B__law_unlike
def B__law_parts : En → Out :=
  (fSeq (fIf (fB (f2 inP (f2 ixD (fV 0) (fC (.int 0))) (fTup (fA (fC (.str "all")) (fA (fC (.str "any")) (fA (fC (.str "then")) fA0)))))) (fRet (fL (on1 lstD) (fA (f2 ixD (fV 0) (fC (.int 1))) fA0))) fNext)
  (fRet (f2 mulD (fL (on1 lstD) (fA (fSl (fV 0) (fO (fC (.int 2))) fO0) fA0)) (fL (on1 intD) (fA (f2 neP (f2 ixD (fV 0) (fC (.int 0))) (fC (.str "do"))) fA0)))))
def F__law_parts : List PyData → Option PyData := runB 1 1 B__law_parts
def B__law_step (r : Nat → List PyData → Option PyData) : En → Out :=
  (fSeq (fAsg (f2 ixD (fV 0) (fC (.int 0))) (gN 1))
  (fSeq (fAsg (fL F__law_parts (fA (fV 0) fA0)) (gN 2))
  (fSeq (fIf (fB (f2 inP (fV 1) (fTup (fA (fC (.str "all")) (fA (fC (.str "any")) (fA (fC (.str "then")) fA0)))))) (fSeq (fIf (fB (f2 eqP (fL (on1 lenD) (fA (fV 2) fA0)) (fC (.int 1)))) (fRet (f2 ixD (fV 2) (fC (.int 0)))) fNext)
  (fFor (fEnum (fA (fV 2) fA0)) (gT (gsC (gN 3) (gsC (gN 4) gs0)) 2) (fSeq (fIf (fB (f2 eqP (f2 ixD (fV 4) (fC (.int 0))) (fV 1))) (fRet (fTup (fA (fV 1) (fA (f2 addD (f2 addD (fL (on1 tupD) (fA (fSl (fV 2) fO0 (fO (fV 3))) fA0)) (f2 ixD (fV 4) (fC (.int 1)))) (fL (on1 tupD) (fA (fSl (fV 2) (fO (f2 addD (fV 3) (fC (.int 1)))) fO0) fA0))) fA0)))) fNext)
  (fIf (fAnd (fB (f2 neP (fV 1) (fC (.str "then")))) (fB (f2 inP (fV 4) (fSl (fV 2) fO0 (fO (fV 3)))))) (fRet (fTup (fA (fV 1) (fA (fL (on1 tupD) (fA (f2 addD (fSl (fV 2) fO0 (fO (fV 3))) (fSl (fV 2) (fO (f2 addD (fV 3) (fC (.int 1)))) fO0)) fA0)) fA0)))) fNext)))) (fIf (fAnd (fB (f2 neP (fV 2) (fLst fA0))) (fB (f2 eqP (f2 ixD (f2 ixD (fV 2) (fC (.int 0))) (fC (.int 0))) (fV 1)))) (fSeq (fIf (fB (f2 eqP (fV 1) (fC (.str "within")))) (fRet (fTup (fA (fV 1) (fA (fL (on2 minD) (fA (f2 ixD (fV 0) (fC (.int 1))) (fA (f2 ixD (f2 ixD (fV 2) (fC (.int 0))) (fC (.int 1))) fA0))) (fA (f2 ixD (f2 ixD (fV 2) (fC (.int 0))) (fC (.int 2))) fA0))))) fNext)
  (fIf (fB (f2 eqP (f2 ixD (fV 0) (fC (.int 1))) (f2 ixD (f2 ixD (fV 2) (fC (.int 0))) (fC (.int 1))))) (fRet (f2 ixD (fV 2) (fC (.int 0)))) fNext)) fNext))
  (fSeq (fFor (fEnum (fA (fV 2) fA0)) (gT (gsC (gN 3) (gsC (gN 4) gs0)) 2) (fSeq (fAsg (fL (r 0) (fA (fV 4) fA0)) (gN 5))
  (fIf (fB (f2 neP (fV 5) (fV 4))) (fSeq (fIf (fB (f2 inP (fV 1) (fTup (fA (fC (.str "all")) (fA (fC (.str "any")) (fA (fC (.str "then")) fA0)))))) (fRet (fTup (fA (fV 1) (fA (fL (on1 tupD) (fA (f2 addD (f2 addD (fSl (fV 2) fO0 (fO (fV 3))) (fLst (fA (fV 5) fA0))) (fSl (fV 2) (fO (f2 addD (fV 3) (fC (.int 1)))) fO0)) fA0)) fA0)))) fNext)
  (fRet (f2 addD (fSl (fV 0) fO0 (fO (fC (.int 2)))) (fTup (fA (fV 5) fA0))))) fNext)))
  (fRet (fV 0))))))
def G__law_step : Nat → Nat → List PyData → Option PyData
  | 0 => fun _ _ => none
  | n + 1 => fun k => match k with
    | _ => runB 1 6 (B__law_step (G__law_step n))
def F__law_step : List PyData → Option PyData := G__law_step fuel 0
def B__law_book : En → Out :=
  (fSeq (fAsg (fTup fA0) (gN 1))
  (fSeq (fFor (fRng1 (fA (f2 addD (fC (.int 1)) (f2 modD (fV 0) (fC (.int 5)))) fA0)) (gN 2) (fSeq (fAsg (f2 fdvD (fL F__law_drawn (fA (fV 0) (fA (fV 2) fA0))) (fC (.int 4))) (gN 3))
  (fSeq (fAsg (fTup fA0) (gN 4))
  (fSeq (fIf (fB (f2 eqP (f2 modD (f2 fdvD (fV 3) (fC (.int 128))) (fC (.int 2))) (fC (.int 0)))) (fAsg (fL (on1 tupD) (fA (fComp [6, 7] (fEnum (fA (fV 1) fA0)) (gT (gsC (gN 6) (gsC (gN 7) gs0)) 2) (fB (f2 eqP (f2 modD (f2 addD (f2 fdvD (fV 3) (fC (.int 4))) (fV 6)) (fC (.int 3))) (fC (.int 0)))) (f2 ixD (fV 7) (fC (.int 0)))) fA0)) (gN 4)) fNext)
  (fSeq (fAsg (fL F__law_task (fA (f2 fdvD (fV 3) (fC (.int 256))) (fA (f2 addD (fC (.int 1)) (f2 modD (fV 3) (fC (.int 3)))) (fA (fC (.int 2)) fA0)))) (gN 5))
  (fAsg (f2 addD (fV 1) (fTup (fA (fTup (fA (f2 ixD (fTup (fA (fC (.str "art")) (fA (fC (.str "bread")) (fA (fC (.str "coin")) (fA (fC (.str "dog")) (fA (fC (.str "end")) fA0)))))) (fV 2)) (fA (fV 4) (fA (fV 5) fA0)))) fA0))) (gN 1)))))))
  (fRet (fV 1))))
def F__law_book : List PyData → Option PyData := runB 1 8 B__law_book
def B__law_offered : En → Out :=
  (fSeq (fAsg (fLst fA0) (gN 2))
  (fSeq (fFor (fItems (fV 0)) (gT (gsC (gN 3) (gsC (gN 4) (gsC (gN 5) gs0))) 3) (fIf (fAnd (fB (f2 niP (fV 3) (f2 ixD (fV 1) (fC (.str "going"))))) (fB (f2 eqP (fComp [6] (fItems (fV 4)) (gN 6) (fB (f2 eqP (f2 ixD (f2 ixD (f2 ixD (fV 1) (fC (.str "counts"))) (fV 6)) (fC (.int 1))) (fC (.int 0)))) (fV 6)) (fLst fA0)))) (fApp 2 (fV 3)) fNext))
  (fRet (fL (on1 tupD) (fA (fV 2) fA0)))))
def F__law_offered : List PyData → Option PyData := runB 2 7 B__law_offered
def B__law_right : En → Out :=
  (fSeq (fFor (fEnum (fA (fV 1) fA0)) (gT (gsC (gN 2) (gsC (gN 3) gs0)) 2) (fIf (fB (f2 eqP (f2 ixD (fV 3) (fC (.int 0))) (fC (.str "take")))) (fSeq (fAsg (f2 ixD (fComp [9] (fItems (fV 0)) (gN 9) (fB (f2 eqP (f2 ixD (fV 9) (fC (.int 0))) (f2 ixD (fV 3) (fC (.int 1))))) (f2 ixD (fV 9) (fC (.int 2)))) (fC (.int 0))) (gN 4))
  (fSeq (fAsg (fTup fA0) (gN 5))
  (fSeq (fAsg (fC .none) (gN 6))
  (fSeq (fFor (fItems (fSl (fV 1) (fO (f2 addD (fV 2) (fC (.int 1)))) fO0)) (gN 7) (fSeq (fIf (fAnd (fB (f2 eqP (f2 ixD (fV 7) (fC (.int 0))) (fC (.str "deed")))) (fB (f1 (fun d => some (.bool (isNone d))) (fV 6)))) (fAsg (f2 addD (fV 5) (fTup (fA (f2 ixD (fV 7) (fC (.int 1))) fA0))) (gN 5)) fNext)
  (fIf (fAnd (fB (f2 eqP (f2 ixD (fV 7) (fC (.int 1))) (f2 ixD (fV 3) (fC (.int 1))))) (fAnd (fB (f2 inP (f2 ixD (fV 7) (fC (.int 0))) (fTup (fA (fC (.str "done")) (fA (fC (.str "failed")) (fA (fC (.str "up")) (fA (fC (.str "take")) fA0))))))) (fB (f1 (fun d => some (.bool (isNone d))) (fV 6))))) (fAsg (f2 ixD (fV 7) (fC (.int 0))) (gN 6)) fNext)))
  (fSeq (fAsg (fL F__law_when (fA (fV 4) (fA (fV 5) (fA (fC (.int 0)) fA0)))) (gN 8))
  (fSeq (fIf (fAnd (fB (f2 inP (fV 6) (fTup (fA (fC (.str "done")) (fA (fC (.str "failed")) fA0))))) (fB (f2 neP (fV 8) (fTup (fA (fV 6) (fA (fL (on1 lenD) (fA (fV 5) fA0)) fA0)))))) (fRet (fC (.bool false))) fNext)
  (fIf (fAnd (fB (f2 niP (fV 6) (fTup (fA (fC (.str "done")) (fA (fC (.str "failed")) fA0))))) (fB (f1 (fun d => some (.bool (!isNone d))) (fV 8)))) (fRet (fC (.bool false))) fNext))))))) fNext))
  (fRet (fC (.bool true))))
def F__law_right : List PyData → Option PyData := runB 2 10 B__law_right
end Tk

namespace Tk
open PySem L2 Tl
/-! ### drawn numbers -/
def drawn (n k : Int) : Int :=
  ((n + 104729 * k + 17) * 69621 % 2147483647 * ((n + 104729 * k + 17) * 69621 % 2147483647) + 3 * ((n + 104729 * k + 17) * 69621 % 2147483647) + k) % 2147483629
theorem mul_l {i j : Int} (h : -(2 ^ 64) < i ∧ i < 2 ^ 64) : mulD (.int i) (.int j) = some (.int (i * j)) := by
  simp only [mulD]
  rw [if_pos (Or.inl h)]
theorem mul_r {i j : Int} (h : -(2 ^ 64) < j ∧ j < 2 ^ 64) : mulD (.int i) (.int j) = some (.int (i * j)) := by
  simp only [mulD]
  rw [if_pos (Or.inr h)]
theorem mod_p {i j : Int} (h : 0 < j) : modD (.int i) (.int j) = some (.int (i % j)) := by
  simp only [modD, int2]
  rw [if_pos h]
theorem fdv_p {i j : Int} (h : 0 < j ∧ j < 1073741824) : fdvD (.int i) (.int j) = some (.int (i / j)) := by
  simp only [fdvD, int2]
  rw [if_pos h]
theorem add_i {i j : Int} : addD (.int i) (.int j) = some (.int (i + j)) := rfl
theorem sub_i {i j : Int} : subD (.int i) (.int j) = some (.int (i - j)) := rfl
theorem F_drawn (n k : Int) : F__law_drawn [.int n, .int k] = some (.int (drawn n k)) := by
  unfold F__law_drawn B__law_drawn drawn
  have h0 : 0 ≤ (n + 104729 * k + 17) * 69621 % 2147483647 := Int.emod_nonneg _ (by decide)
  have h1 : (n + 104729 * k + 17) * 69621 % 2147483647 < 2147483647 := Int.emod_lt_of_pos _ (by decide)
  simp only [runB, fSeq, fIf, fRet, fAsg, fB, f1, f2, fA, fA0, fL, fV, fC, fTup, fLst, fNext, on1, on2, gN, gT, gsC, gs0, asB, fAnd, fOr, fBnd, fBor, fNot, fVB, fIte, fAndV, fOrV, notD, negD, fO, fO0, asI, fSl, fPar, List.map_cons, List.map_nil, List.length_cons, List.length_nil, List.reduceReplicate, List.cons_append, List.nil_append, List.append_nil, List.getElem?_cons_zero, List.getElem?_cons_succ, Option.join_some, Option.join_none, List.set_cons_zero, List.set_cons_succ, Option.bind_some, Option.bind_none, Option.map_some, Option.map_none, Nat.reduceSub, Nat.reduceAdd, Nat.reduceEqDiff, if_true, if_false, Bool.false_eq_true, reduceIte, Nat.zero_add, add_i, mul_l (i := 104729) (j := k) (by decide), mul_r (i := n + 104729 * k + 17) (j := 69621) (by decide), mod_p (j := 2147483647) (by decide), mod_p (j := 2147483629) (by decide)]
  generalize (n + 104729 * k + 17) * 69621 % 2147483647 = d at h0 h1 ⊢
  simp only [mul_l (i := d) (j := d) (by omega), mul_l (i := 3) (j := d) (by decide), runB, fSeq, fIf, fRet, fAsg, fB, f1, f2, fA, fA0, fL, fV, fC, fTup, fLst, fNext, on1, on2, gN, gT, gsC, gs0, asB, fAnd, fOr, fBnd, fBor, fNot, fVB, fIte, fAndV, fOrV, notD, negD, fO, fO0, asI, fSl, fPar, List.map_cons, List.map_nil, List.length_cons, List.length_nil, List.reduceReplicate, List.cons_append, List.nil_append, List.append_nil, List.getElem?_cons_zero, List.getElem?_cons_succ, Option.join_some, Option.join_none, List.set_cons_zero, List.set_cons_succ, Option.bind_some, Option.bind_none, Option.map_some, Option.map_none, Nat.reduceSub, Nat.reduceAdd, Nat.reduceEqDiff, if_true, if_false, Bool.false_eq_true, reduceIte, Nat.zero_add, add_i, mod_p (j := 2147483629) (by decide)]
theorem drawn_nn (n k : Int) : 0 ≤ drawn n k := Int.emod_nonneg _ (by decide)
theorem drawn_lt (n k : Int) : drawn n k < 2147483629 := Int.emod_lt_of_pos _ (by decide)
end Tk

namespace Tk
open PySem L2 Tl
theorem atI_nn {α : Type} (xs : List α) (k : Int) (h0 : 0 ≤ k) (h : k < xs.length) : atI xs k = xs[k.toNat]? := by
  unfold atI ixN
  rw [if_pos h0, if_pos h]
  rfl
def cellAt (ns : List Int) (k : Int) : Int := if k < ns.length then ns.getD k.toNat 0 else 0
theorem F_cell (ns : List Int) (k : Int) (h0 : 0 ≤ k) : F__law_cell_at [scr ns, .int k] = some (.int (cellAt ns k)) := by
  unfold F__law_cell_at B__law_cell_at cellAt
  simp only [runB, fSeq, fIf, fRet, fAsg, fB, f1, f2, fA, fA0, fL, fV, fC, fTup, fLst, fNext, on1, on2, gN, gT, gsC, gs0, asB, fAnd, fOr, fBnd, fBor, fNot, fVB, fIte, fAndV, fOrV, notD, negD, fO, fO0, asI, fSl, fPar, List.map_cons, List.map_nil, List.length_cons, List.length_nil, List.reduceReplicate, List.cons_append, List.nil_append, List.append_nil, List.getElem?_cons_zero, List.getElem?_cons_succ, Option.join_some, Option.join_none, List.set_cons_zero, List.set_cons_succ, Option.bind_some, Option.bind_none, Option.map_some, Option.map_none, Nat.reduceSub, Nat.reduceAdd, Nat.reduceEqDiff, if_true, if_false, Bool.false_eq_true, reduceIte, Nat.zero_add, scr, lenD, ltD, int2, List.length_map]
  by_cases h : k < (ns.length : Int)
  · have hk : k.toNat < ns.length := by omega
    have e : atI (List.map PyData.int ns) k = some (.int (ns.getD k.toNat 0)) := by
      rw [atI_nn _ _ h0 (by simpa using h), List.getElem?_map, List.getElem?_eq_getElem hk]
      simp [List.getD, hk]
    simp only [decide_eq_true h, if_pos h, ixD, e]
  · simp only [decide_eq_false h, if_neg h]
def mixed (ns : List Int) (k : Int) : Int :=
  ((cellAt ns k + 7919 * k + 1) * 48271 % 2147483647 * ((cellAt ns k + 7919 * k + 1) * 48271 % 2147483647) + 7 * ((cellAt ns k + 7919 * k + 1) * 48271 % 2147483647) + k) % 2147483629
theorem F_mixed (ns : List Int) (k : Int) (hk : 0 ≤ k) : F__law_mixed [scr ns, .int k] = some (.int (mixed ns k)) := by
  unfold F__law_mixed B__law_mixed mixed
  have h0 : 0 ≤ (cellAt ns k + 7919 * k + 1) * 48271 % 2147483647 := Int.emod_nonneg _ (by decide)
  have h1 : (cellAt ns k + 7919 * k + 1) * 48271 % 2147483647 < 2147483647 := Int.emod_lt_of_pos _ (by decide)
  simp only [runB, fSeq, fIf, fRet, fAsg, fB, f1, f2, fA, fA0, fL, fV, fC, fTup, fLst, fNext, on1, on2, gN, gT, gsC, gs0, asB, fAnd, fOr, fBnd, fBor, fNot, fVB, fIte, fAndV, fOrV, notD, negD, fO, fO0, asI, fSl, fPar, List.map_cons, List.map_nil, List.length_cons, List.length_nil, List.reduceReplicate, List.cons_append, List.nil_append, List.append_nil, List.getElem?_cons_zero, List.getElem?_cons_succ, Option.join_some, Option.join_none, List.set_cons_zero, List.set_cons_succ, Option.bind_some, Option.bind_none, Option.map_some, Option.map_none, Nat.reduceSub, Nat.reduceAdd, Nat.reduceEqDiff, if_true, if_false, Bool.false_eq_true, reduceIte, Nat.zero_add, F_cell ns k hk, add_i, mul_l (i := 7919) (j := k) (by decide), mul_r (i := cellAt ns k + 7919 * k + 1) (j := 48271) (by decide), mod_p (j := 2147483647) (by decide)]
  generalize (cellAt ns k + 7919 * k + 1) * 48271 % 2147483647 = d at h0 h1 ⊢
  simp only [mul_l (i := d) (j := d) (by omega), mul_l (i := 7) (j := d) (by decide), runB, fSeq, fIf, fRet, fAsg, fB, f1, f2, fA, fA0, fL, fV, fC, fTup, fLst, fNext, on1, on2, gN, gT, gsC, gs0, asB, fAnd, fOr, fBnd, fBor, fNot, fVB, fIte, fAndV, fOrV, notD, negD, fO, fO0, asI, fSl, fPar, List.map_cons, List.map_nil, List.length_cons, List.length_nil, List.reduceReplicate, List.cons_append, List.nil_append, List.append_nil, List.getElem?_cons_zero, List.getElem?_cons_succ, Option.join_some, Option.join_none, List.set_cons_zero, List.set_cons_succ, Option.bind_some, Option.bind_none, Option.map_some, Option.map_none, Nat.reduceSub, Nat.reduceAdd, Nat.reduceEqDiff, if_true, if_false, Bool.false_eq_true, reduceIte, Nat.zero_add, add_i, mod_p (j := 2147483629) (by decide)]
theorem mixed_nn (ns : List Int) (k : Int) : 0 ≤ mixed ns k := Int.emod_nonneg _ (by decide)
theorem mixed_lt (ns : List Int) (k : Int) : mixed ns k < 2147483629 := Int.emod_lt_of_pos _ (by decide)

/-! ### tasks -/
inductive Gw where
  | all | any | thn
  deriving DecidableEq
def Gw.str : Gw → Str
  | .all => "all"
  | .any => "any"
  | .thn => "then"
inductive Task where
  | one (d : Str) (n : Int)
  | grp (w : Gw) (ts : List Task)
  | wout (d : Str) (t : Task)
  | wthn (n : Int) (t : Task)
mutual
def enc : Task → PyData
  | .one d n => .tuple [.str "do", .str d, .int n]
  | .grp w ts => .tuple [.str w.str, .tuple (encs ts)]
  | .wout d t => .tuple [.str "without", .str d, enc t]
  | .wthn n t => .tuple [.str "within", .int n, enc t]
def encs : List Task → List PyData
  | [] => []
  | t :: ts => enc t :: encs ts
end
theorem encs_map : ∀ ts : List Task, encs ts = ts.map enc
  | [] => by simp [encs]
  | t :: ts => by simp [encs, encs_map ts]
/-- well made, at most n within one another -/
def okT : Nat → Task → Prop
  | 0, _ => False
  | _ + 1, .one d n => PyData.canLay0 (.str d) = true ∧ 1 ≤ n
  | k + 1, .grp w ts => ts ≠ [] ∧ ((w = .thn → 2 ≤ ts.length) ∧ ts.length ≤ 1000) ∧ ∀ t ∈ ts, okT k t
  | k + 1, .wout d t => PyData.canLay0 (.str d) = true ∧ okT k t
  | k + 1, .wthn n t => 1 ≤ n ∧ okT k t
theorem okT.up : ∀ {n : Nat} {t : Task}, okT n t → okT (n + 1) t
  | 0, _, h => h.elim
  | n + 1, .one d k, h => h
  | n + 1, .grp w ts, h => ⟨h.1, h.2.1, fun t ht => (h.2.2 t ht).up⟩
  | n + 1, .wout d t, h => ⟨h.1, h.2.up⟩
  | n + 1, .wthn k t, h => ⟨h.1, h.2.up⟩
theorem okT.le {n m : Nat} (h : n ≤ m) {t : Task} (ht : okT n t) : okT m t := by
  induction h with
  | refl => exact ht
  | step _ ih => exact ih.up
/-! shapes -/
theorem lay_all : ∀ (xs : List PyData), (∀ x ∈ xs, x.canLay0 = true) → PyData.canLayAll0 xs = true
  | [], _ => by simp [PyData.canLayAll0]
  | x :: xs, h => by
    simp only [PyData.canLayAll0]
    rw [h x List.mem_cons_self, lay_all xs fun y hy => h y (List.mem_cons_of_mem _ hy)]
    rfl
theorem depth_all (n : Nat) : ∀ (xs : List PyData), (∀ x ∈ xs, x.depth ≤ n) → PyData.depthAll xs ≤ n
  | [], _ => by simp [PyData.depthAll]
  | x :: xs, h => by
    simp only [PyData.depthAll]
    have h1 := h x List.mem_cons_self
    have h2 := depth_all n xs fun y hy => h y (List.mem_cons_of_mem _ hy)
    omega
theorem lay_word (w : Gw) : PyData.canLay0 (.str w.str) = true := by cases w <;> decide +kernel
theorem lay_do : PyData.canLay0 (.str "do") = true := by decide +kernel
theorem lay_wout : PyData.canLay0 (.str "without") = true := by decide +kernel
theorem lay_wthn : PyData.canLay0 (.str "within") = true := by decide +kernel
theorem lay_done : PyData.canLay0 (.str "done") = true := by decide +kernel
theorem lay_failed : PyData.canLay0 (.str "failed") = true := by decide +kernel
theorem enc_lay : ∀ (n : Nat) (t : Task), okT n t → (enc t).canLay0 = true
  | 0, _, h => h.elim
  | n + 1, .one d k, h => by
    simp only [enc, PyData.canLay0, PyData.canLayAll0]
    have := h.1
    simp only [PyData.canLay0] at this
    rw [this]
    decide +kernel
  | n + 1, .grp w ts, h => by
    have hw := lay_word w
    simp only [enc, encs_map, PyData.canLay0, PyData.canLayAll0] at hw ⊢
    rw [hw, lay_all _ fun x hx => by
      obtain ⟨t, ht, rfl⟩ := List.mem_map.mp hx
      exact enc_lay n t (h.2.2 t ht)]
    rfl
  | n + 1, .wout d t, h => by
    have h1 := h.1
    have hw := lay_wout
    simp only [enc, PyData.canLay0, PyData.canLayAll0] at h1 hw ⊢
    rw [h1, hw, enc_lay n t h.2]
    rfl
  | n + 1, .wthn k t, h => by
    have hw := lay_wthn
    simp only [enc, PyData.canLay0, PyData.canLayAll0] at hw ⊢
    rw [hw, enc_lay n t h.2]
    rfl
theorem enc_depth : ∀ (n : Nat) (t : Task), okT n t → (enc t).depth ≤ 2 * n
  | 0, _, h => h.elim
  | n + 1, .one d k, h => by
    simp only [enc, PyData.depth, PyData.depthAll]
    omega
  | n + 1, .grp w ts, h => by
    have := depth_all (2 * n) (ts.map enc) fun x hx => by
      obtain ⟨t, ht, rfl⟩ := List.mem_map.mp hx
      exact enc_depth n t (h.2.2 t ht)
    simp only [enc, encs_map, PyData.depth, PyData.depthAll]
    omega
  | n + 1, .wout d t, h => by
    have := enc_depth n t h.2
    simp only [enc, PyData.depth, PyData.depthAll]
    omega
  | n + 1, .wthn k t, h => by
    have := enc_depth n t h.2
    simp only [enc, PyData.depth, PyData.depthAll]
    omega
theorem shaped_of {d : PyData} (h1 : d.canLay0 = true) (h2 : d.depth ≤ 64) : SeqAt.shaped d = true := by
  unfold SeqAt.shaped
  rw [h1, decide_eq_true h2]
  rfl
theorem enc_shaped {n : Nat} {t : Task} (hn : n ≤ 32) (h : okT n t) : SeqAt.shaped (enc t) = true := shaped_of (enc_lay n t h) (by have := enc_depth n t h; omega)

/-! ### a deed -/
inductive Res where
  | done | failed
  | left (t : Task)
def encR : Res → PyData
  | .done => .str "done"
  | .failed => .str "failed"
  | .left t => enc t
def Res.isDone : Res → Bool
  | .done => true
  | _ => false
def Res.isFailed : Res → Bool
  | .failed => true
  | _ => false
def Res.lefts : List Res → List Task
  | [] => []
  | .left t :: r => t :: lefts r
  | _ :: r => lefts r
/-- a group, or the one alone -/
def mkG (w : Gw) (ts : List Task) : Task := match ts with
  | [t] => t
  | _ => .grp w ts
def endAll (rs : List Res) : Res := if rs.any Res.isFailed then .failed else match Res.lefts rs with
  | [] => .done
  | l => .left (mkG .all l)
def endAny (rs : List Res) : Res := if rs.any Res.isDone then .done else match Res.lefts rs with
  | [] => .failed
  | l => .left (mkG .any l)
def endThn (r : Res) (ts : List Task) : Res := match r with
  | .failed => .failed
  | .left t => .left (mkG .thn (t :: ts))
  | .done => match ts with
    | [] => .done
    | l => .left (mkG .thn l)
mutual
def step (x : Str) : Task → Res
  | .one d n => if x = d then (if n = 1 then .done else .left (.one d (n - 1))) else .left (.one d n)
  | .grp .all ts => endAll (steps x ts)
  | .grp .any ts => endAny (steps x ts)
  | .grp .thn ts => match ts with
    | [] => .failed
    | t :: r => endThn (step x t) r
  | .wout d t => if x = d then .failed else match step x t with
    | .left t' => .left (.wout d t')
    | r => r
  | .wthn n t => match step x t with
    | .left t' => if n = 1 then .failed else .left (.wthn (n - 1) t')
    | r => r
def steps (x : Str) : List Task → List Res
  | [] => []
  | t :: ts => step x t :: steps x ts
end
theorem steps_map (x : Str) : ∀ ts : List Task, steps x ts = ts.map (step x)
  | [] => by simp [steps]
  | t :: ts => by simp [steps, steps_map x ts]
def okR (n : Nat) : Res → Prop
  | .left t => okT n t
  | _ => True
theorem lefts_ok {n : Nat} : ∀ {rs : List Res}, (∀ r ∈ rs, okR n r) → ∀ t ∈ Res.lefts rs, okT n t
  | [], _, t, ht => by cases ht
  | .left u :: rs, h, t, ht => by
    rcases List.mem_cons.mp ht with e | e
    · subst e
      exact h _ List.mem_cons_self
    · exact lefts_ok (fun r hr => h r (List.mem_cons_of_mem _ hr)) t e
  | .done :: rs, h, t, ht => lefts_ok (fun r hr => h r (List.mem_cons_of_mem _ hr)) t ht
  | .failed :: rs, h, t, ht => lefts_ok (fun r hr => h r (List.mem_cons_of_mem _ hr)) t ht
theorem lefts_len : ∀ rs : List Res, (Res.lefts rs).length ≤ rs.length
  | [] => Nat.le_refl _
  | .left u :: rs => Nat.succ_le_succ (lefts_len rs)
  | .done :: rs => Nat.le_succ_of_le (lefts_len rs)
  | .failed :: rs => Nat.le_succ_of_le (lefts_len rs)
theorem mkG_ok {n : Nat} {w : Gw} {ts : List Task} (h0 : ts ≠ []) (hl : ts.length ≤ 1000) (h : ∀ t ∈ ts, okT n t) : okT (n + 1) (mkG w ts) := by
  match ts, h0, hl, h with
  | [t], _, _, h => exact (h t List.mem_cons_self).up
  | t :: u :: r, _, hl, h => exact ⟨by simp, ⟨fun _ => by simp, hl⟩, h⟩
theorem step_ok : ∀ (n : Nat) (t : Task) (x : Str), okT n t → okR n (step x t)
  | 0, _, _, h => h.elim
  | n + 1, .one d k, x, h => by
    simp only [step]
    split
    · split
      · trivial
      · rename_i h1
        exact ⟨h.1, by have := h.2; omega⟩
    · exact h
  | n + 1, .grp .all ts, x, h => by
    have hr : ∀ r ∈ steps x ts, okR n r := fun r hr => by
      rw [steps_map] at hr
      obtain ⟨t, ht, rfl⟩ := List.mem_map.mp hr
      exact step_ok n t x (h.2.2 t ht)
    simp only [step, endAll]
    split
    · trivial
    · split
      · trivial
      · rename_i h0
        exact mkG_ok (fun z => h0 z) (Nat.le_trans (lefts_len _) (by rw [steps_map, List.length_map]; exact h.2.1.2)) (lefts_ok hr)
  | n + 1, .grp .any ts, x, h => by
    have hr : ∀ r ∈ steps x ts, okR n r := fun r hr => by
      rw [steps_map] at hr
      obtain ⟨t, ht, rfl⟩ := List.mem_map.mp hr
      exact step_ok n t x (h.2.2 t ht)
    simp only [step, endAny]
    split
    · trivial
    · split
      · trivial
      · rename_i h0
        exact mkG_ok (fun z => h0 z) (Nat.le_trans (lefts_len _) (by rw [steps_map, List.length_map]; exact h.2.1.2)) (lefts_ok hr)
  | n + 1, .grp .thn ts, x, h => by
    match ts, h with
    | [], h => trivial
    | t :: r, h =>
      have h1 := step_ok n t x (h.2.2 t List.mem_cons_self)
      simp only [step, endThn]
      cases e : step x t with
      | failed => trivial
      | left u =>
        rw [e] at h1
        refine mkG_ok (by simp) h.2.1.2 fun v hv => ?_
        rcases List.mem_cons.mp hv with z | z
        · subst z
          exact h1
        · exact h.2.2 v (List.mem_cons_of_mem _ z)
      | done =>
        simp only
        split
        · trivial
        · rename_i h0
          exact mkG_ok (fun z => h0 z) (Nat.le_trans (Nat.le_succ _) h.2.1.2) fun v hv => h.2.2 v (List.mem_cons_of_mem _ hv)
  | n + 1, .wout d t, x, h => by
    have h1 := step_ok n t x h.2
    simp only [step]
    split
    · trivial
    · cases e : step x t with
      | failed => trivial
      | done => trivial
      | left u =>
        rw [e] at h1
        exact ⟨h.1, h1⟩
  | n + 1, .wthn k t, x, h => by
    have h1 := step_ok n t x h.2
    simp only [step]
    cases e : step x t with
    | failed => trivial
    | done => trivial
    | left u =>
      rw [e] at h1
      simp only
      split
      · trivial
      · exact ⟨by have := h.1; omega, h1⟩
end Tk

namespace Tk
open PySem L2 Tl
theorem w_do_do : (("do" : Str) == ("do" : Str)) = true := by decide +kernel
theorem w_do_all : (("do" : Str) == ("all" : Str)) = false := by decide +kernel
theorem w_do_any : (("do" : Str) == ("any" : Str)) = false := by decide +kernel
theorem w_do_then : (("do" : Str) == ("then" : Str)) = false := by decide +kernel
theorem w_do_without : (("do" : Str) == ("without" : Str)) = false := by decide +kernel
theorem w_do_within : (("do" : Str) == ("within" : Str)) = false := by decide +kernel
theorem w_do_done : (("do" : Str) == ("done" : Str)) = false := by decide +kernel
theorem w_do_failed : (("do" : Str) == ("failed" : Str)) = false := by decide +kernel
theorem w_all_do : (("all" : Str) == ("do" : Str)) = false := by decide +kernel
theorem w_all_all : (("all" : Str) == ("all" : Str)) = true := by decide +kernel
theorem w_all_any : (("all" : Str) == ("any" : Str)) = false := by decide +kernel
theorem w_all_then : (("all" : Str) == ("then" : Str)) = false := by decide +kernel
theorem w_all_without : (("all" : Str) == ("without" : Str)) = false := by decide +kernel
theorem w_all_within : (("all" : Str) == ("within" : Str)) = false := by decide +kernel
theorem w_all_done : (("all" : Str) == ("done" : Str)) = false := by decide +kernel
theorem w_all_failed : (("all" : Str) == ("failed" : Str)) = false := by decide +kernel
theorem w_any_do : (("any" : Str) == ("do" : Str)) = false := by decide +kernel
theorem w_any_all : (("any" : Str) == ("all" : Str)) = false := by decide +kernel
theorem w_any_any : (("any" : Str) == ("any" : Str)) = true := by decide +kernel
theorem w_any_then : (("any" : Str) == ("then" : Str)) = false := by decide +kernel
theorem w_any_without : (("any" : Str) == ("without" : Str)) = false := by decide +kernel
theorem w_any_within : (("any" : Str) == ("within" : Str)) = false := by decide +kernel
theorem w_any_done : (("any" : Str) == ("done" : Str)) = false := by decide +kernel
theorem w_any_failed : (("any" : Str) == ("failed" : Str)) = false := by decide +kernel
theorem w_then_do : (("then" : Str) == ("do" : Str)) = false := by decide +kernel
theorem w_then_all : (("then" : Str) == ("all" : Str)) = false := by decide +kernel
theorem w_then_any : (("then" : Str) == ("any" : Str)) = false := by decide +kernel
theorem w_then_then : (("then" : Str) == ("then" : Str)) = true := by decide +kernel
theorem w_then_without : (("then" : Str) == ("without" : Str)) = false := by decide +kernel
theorem w_then_within : (("then" : Str) == ("within" : Str)) = false := by decide +kernel
theorem w_then_done : (("then" : Str) == ("done" : Str)) = false := by decide +kernel
theorem w_then_failed : (("then" : Str) == ("failed" : Str)) = false := by decide +kernel
theorem w_without_do : (("without" : Str) == ("do" : Str)) = false := by decide +kernel
theorem w_without_all : (("without" : Str) == ("all" : Str)) = false := by decide +kernel
theorem w_without_any : (("without" : Str) == ("any" : Str)) = false := by decide +kernel
theorem w_without_then : (("without" : Str) == ("then" : Str)) = false := by decide +kernel
theorem w_without_without : (("without" : Str) == ("without" : Str)) = true := by decide +kernel
theorem w_without_within : (("without" : Str) == ("within" : Str)) = false := by decide +kernel
theorem w_without_done : (("without" : Str) == ("done" : Str)) = false := by decide +kernel
theorem w_without_failed : (("without" : Str) == ("failed" : Str)) = false := by decide +kernel
theorem w_within_do : (("within" : Str) == ("do" : Str)) = false := by decide +kernel
theorem w_within_all : (("within" : Str) == ("all" : Str)) = false := by decide +kernel
theorem w_within_any : (("within" : Str) == ("any" : Str)) = false := by decide +kernel
theorem w_within_then : (("within" : Str) == ("then" : Str)) = false := by decide +kernel
theorem w_within_without : (("within" : Str) == ("without" : Str)) = false := by decide +kernel
theorem w_within_within : (("within" : Str) == ("within" : Str)) = true := by decide +kernel
theorem w_within_done : (("within" : Str) == ("done" : Str)) = false := by decide +kernel
theorem w_within_failed : (("within" : Str) == ("failed" : Str)) = false := by decide +kernel
theorem w_done_do : (("done" : Str) == ("do" : Str)) = false := by decide +kernel
theorem w_done_all : (("done" : Str) == ("all" : Str)) = false := by decide +kernel
theorem w_done_any : (("done" : Str) == ("any" : Str)) = false := by decide +kernel
theorem w_done_then : (("done" : Str) == ("then" : Str)) = false := by decide +kernel
theorem w_done_without : (("done" : Str) == ("without" : Str)) = false := by decide +kernel
theorem w_done_within : (("done" : Str) == ("within" : Str)) = false := by decide +kernel
theorem w_done_done : (("done" : Str) == ("done" : Str)) = true := by decide +kernel
theorem w_done_failed : (("done" : Str) == ("failed" : Str)) = false := by decide +kernel
theorem w_failed_do : (("failed" : Str) == ("do" : Str)) = false := by decide +kernel
theorem w_failed_all : (("failed" : Str) == ("all" : Str)) = false := by decide +kernel
theorem w_failed_any : (("failed" : Str) == ("any" : Str)) = false := by decide +kernel
theorem w_failed_then : (("failed" : Str) == ("then" : Str)) = false := by decide +kernel
theorem w_failed_without : (("failed" : Str) == ("without" : Str)) = false := by decide +kernel
theorem w_failed_within : (("failed" : Str) == ("within" : Str)) = false := by decide +kernel
theorem w_failed_done : (("failed" : Str) == ("done" : Str)) = false := by decide +kernel
theorem w_failed_failed : (("failed" : Str) == ("failed" : Str)) = true := by decide +kernel
theorem eq_s (a b : Str) : eqP (.str a) (.str b) = some (.bool (a == b)) := rfl
theorem ne_s (a b : Str) : neP (.str a) (.str b) = some (.bool (!(a == b))) := rfl
theorem eq_i (a b : Int) : eqP (.int a) (.int b) = some (.bool (a == b)) := rfl
theorem ne_i (a b : Int) : neP (.int a) (.int b) = some (.bool (!(a == b))) := rfl
theorem in_t2 (w a b : Str) : inP (.str w) (.tuple [.str a, .str b]) = some (.bool (a == w || (b == w))) := by
  simp [inP, inD, flD, PyData.eqv]
theorem in_t3 (w a b c : Str) : inP (.str w) (.tuple [.str a, .str b, .str c]) = some (.bool (a == w || (b == w || c == w))) := by
  simp [inP, inD, flD, PyData.eqv]
theorem ix0 (a : PyData) (r : List PyData) : ixD (.tuple (a :: r)) (.int 0) = some a := by
  simp only [ixD]
  rw [atI_nn _ _ (by decide) (by simp)]
  rfl
theorem ix1 (a b : PyData) (r : List PyData) : ixD (.tuple (a :: b :: r)) (.int 1) = some b := by
  simp only [ixD]
  rw [atI_nn _ _ (by decide) (by simp; omega)]
  rfl
theorem ix2 (a b c : PyData) (r : List PyData) : ixD (.tuple (a :: b :: c :: r)) (.int 2) = some c := by
  simp only [ixD]
  rw [atI_nn _ _ (by decide) (by simp; omega)]
  rfl
theorem F_over (d : PyData) : F_is_over [d] = some (.bool (isStrD d)) := rfl
theorem over_R (r : Res) : isStrD (encR r) = (match r with | .left _ => false | _ => true) := by
  cases r with
  | done => rfl
  | failed => rfl
  | left t => cases t <;> simp [encR, enc, isStrD]
theorem over_enc (t : Task) : isStrD (enc t) = false := by cases t <;> simp [enc, isStrD]
/-! comprehensions -/
theorem compL_gen {α : Type} {i : Nat} {ft : En → Option Bool} {fe : En → Option PyData} {ρ : En} {e : α → PyData} {p : α → Bool} {h : α → PyData} :
    ∀ {xs : List α}, (∀ a ∈ xs, ft (ρ.set i (some (e a))) = some (p a)) → (∀ a ∈ xs, p a = true → fe (ρ.set i (some (e a))) = some (h a)) → compL (gN i) ft fe ρ (xs.map e) = some ((xs.filter p).map h)
  | [], _, _ => rfl
  | a :: xs, h1, h2 => by
    have ih := compL_gen (xs := xs) (fun b hb => h1 b (List.mem_cons_of_mem _ hb)) fun b hb => h2 b (List.mem_cons_of_mem _ hb)
    have q1 := h1 a List.mem_cons_self
    simp only [List.map_cons, compL, gN, Option.bind_some, q1, ih]
    cases hp : p a with
    | true => simp [h2 a List.mem_cons_self hp, hp]
    | false => simp [hp]
theorem compL_map {α : Type} {i : Nat} {fe : En → Option PyData} {ρ : En} {e : α → PyData} {h : α → PyData} {xs : List α} (h2 : ∀ a ∈ xs, fe (ρ.set i (some (e a))) = some (h a)) : compL (gN i) fYes fe ρ (xs.map e) = some (xs.map h) := by
  have q := compL_gen (i := i) (ft := fYes) (fe := fe) (ρ := ρ) (e := e) (p := fun _ => true) (h := h) (xs := xs) (fun _ _ => rfl) fun a ha _ => h2 a ha
  rw [List.filter_eq_self.mpr (by simp)] at q
  exact q
/-! grouped -/
def gD (w : PyData) (ds : List PyData) : PyData := match ds with
  | [d] => d
  | _ => .tuple [w, .tuple ds]
theorem F_group (w : PyData) (ds : List PyData) (h : ds ≠ []) : F_grouped [w, .list ds] = some (gD w ds) := by
  unfold F_grouped B_grouped gD
  match ds, h with
  | [d], _ => simp only [runB, fSeq, fIf, fRet, fAsg, fB, f1, f2, fA, fA0, fL, fV, fC, fTup, fLst, fNext, on1, on2, gN, gT, gsC, gs0, asB, fAnd, fOr, fBnd, fBor, fNot, fVB, fIte, fAndV, fOrV, notD, negD, fO, fO0, asI, fSl, fPar, List.map_cons, List.map_nil, List.length_cons, List.length_nil, List.reduceReplicate, List.cons_append, List.nil_append, List.append_nil, List.getElem?_cons_zero, List.getElem?_cons_succ, Option.join_some, Option.join_none, List.set_cons_zero, List.set_cons_succ, Option.bind_some, Option.bind_none, Option.map_some, Option.map_none, Nat.reduceSub, Nat.reduceAdd, Nat.reduceEqDiff, if_true, if_false, Bool.false_eq_true, reduceIte, Nat.zero_add, lenD, eq_i, List.length_cons, List.length_nil]; rfl
  | d :: e :: r, _ =>
    have hl : (((r.length + 1 + 1 : Nat) : Int) == 1) = false := by
      rw [beq_eq_false_iff_ne]
      omega
    simp only [runB, fSeq, fIf, fRet, fAsg, fB, f1, f2, fA, fA0, fL, fV, fC, fTup, fLst, fNext, on1, on2, gN, gT, gsC, gs0, asB, fAnd, fOr, fBnd, fBor, fNot, fVB, fIte, fAndV, fOrV, notD, negD, fO, fO0, asI, fSl, fPar, List.map_cons, List.map_nil, List.length_cons, List.length_nil, List.reduceReplicate, List.cons_append, List.nil_append, List.append_nil, List.getElem?_cons_zero, List.getElem?_cons_succ, Option.join_some, Option.join_none, List.set_cons_zero, List.set_cons_succ, Option.bind_some, Option.bind_none, Option.map_some, Option.map_none, Nat.reduceSub, Nat.reduceAdd, Nat.reduceEqDiff, if_true, if_false, Bool.false_eq_true, reduceIte, Nat.zero_add, lenD, eq_i, hl, tupD]
theorem enc_mkG (w : Gw) (ts : List Task) (h : ts ≠ []) : gD (.str w.str) (ts.map enc) = enc (mkG w ts) := by
  match ts, h with
  | [t], _ => rfl
  | t :: u :: r, _ => simp [gD, mkG, enc, encs_map]
theorem F_groupT (w : Gw) (ts : List Task) (h : ts ≠ []) : F_grouped [.str w.str, .list (ts.map enc)] = some (enc (mkG w ts)) := by
  rw [F_group _ _ (by simpa using h), enc_mkG w ts h]
/-! results in lists -/
theorem encR_lay {n : Nat} {r : Res} (h : okR n r) : (encR r).canLay0 = true := by
  cases r with
  | done => exact lay_done
  | failed => exact lay_failed
  | left t => exact enc_lay n t h
theorem encR_depth {n : Nat} {r : Res} (h : okR n r) : (encR r).depth ≤ 2 * n + 1 := by
  cases r with
  | done => simp [encR, PyData.depth]
  | failed => simp [encR, PyData.depth]
  | left t =>
    have := enc_depth n t h
    simp only [encR]
    omega
theorem encR_shaped {n : Nat} {r : Res} (hn : n ≤ 30) (h : okR n r) : SeqAt.shaped (encR r) = true := shaped_of (encR_lay h) (by have := encR_depth h; omega)
theorem list_shaped {n : Nat} {rs : List Res} (hn : n ≤ 30) (h : ∀ r ∈ rs, okR n r) : SeqAt.shaped (.list (rs.map encR)) = true := by
  refine shaped_of ?_ ?_
  · simp only [PyData.canLay0]
    exact lay_all _ fun x hx => by
      obtain ⟨r, hr, rfl⟩ := List.mem_map.mp hx
      exact encR_lay (h r hr)
  · have := depth_all (2 * n + 1) (rs.map encR) fun x hx => by
      obtain ⟨r, hr, rfl⟩ := List.mem_map.mp hx
      exact encR_depth (h r hr)
    simp only [PyData.depth]
    omega
theorem sh_failed : SeqAt.shaped (.str "failed") = true := by decide +kernel
theorem sh_done : SeqAt.shaped (.str "done") = true := by decide +kernel
theorem eqv_enc_str (t : Task) (s : Str) : PyData.eqv (enc t) (.str s) = false := by cases t <;> simp [enc, PyData.eqv]
theorem eqv_failed (r : Res) : PyData.eqv (encR r) (.str "failed") = r.isFailed := by
  cases r with
  | done => simp only [encR, PyData.eqv, w_do_do, w_do_all, w_do_any, w_do_then, w_do_without, w_do_within, w_do_done, w_do_failed, w_all_do, w_all_all, w_all_any, w_all_then, w_all_without, w_all_within, w_all_done, w_all_failed, w_any_do, w_any_all, w_any_any, w_any_then, w_any_without, w_any_within, w_any_done, w_any_failed, w_then_do, w_then_all, w_then_any, w_then_then, w_then_without, w_then_within, w_then_done, w_then_failed, w_without_do, w_without_all, w_without_any, w_without_then, w_without_without, w_without_within, w_without_done, w_without_failed, w_within_do, w_within_all, w_within_any, w_within_then, w_within_without, w_within_within, w_within_done, w_within_failed, w_done_do, w_done_all, w_done_any, w_done_then, w_done_without, w_done_within, w_done_done, w_done_failed, w_failed_do, w_failed_all, w_failed_any, w_failed_then, w_failed_without, w_failed_within, w_failed_done, w_failed_failed, Res.isFailed]
  | failed => simp only [encR, PyData.eqv, w_do_do, w_do_all, w_do_any, w_do_then, w_do_without, w_do_within, w_do_done, w_do_failed, w_all_do, w_all_all, w_all_any, w_all_then, w_all_without, w_all_within, w_all_done, w_all_failed, w_any_do, w_any_all, w_any_any, w_any_then, w_any_without, w_any_within, w_any_done, w_any_failed, w_then_do, w_then_all, w_then_any, w_then_then, w_then_without, w_then_within, w_then_done, w_then_failed, w_without_do, w_without_all, w_without_any, w_without_then, w_without_without, w_without_within, w_without_done, w_without_failed, w_within_do, w_within_all, w_within_any, w_within_then, w_within_without, w_within_within, w_within_done, w_within_failed, w_done_do, w_done_all, w_done_any, w_done_then, w_done_without, w_done_within, w_done_done, w_done_failed, w_failed_do, w_failed_all, w_failed_any, w_failed_then, w_failed_without, w_failed_within, w_failed_done, w_failed_failed, Res.isFailed]
  | left t => simp only [encR, eqv_enc_str, Res.isFailed]
theorem eqv_done (r : Res) : PyData.eqv (encR r) (.str "done") = r.isDone := by
  cases r with
  | done => simp only [encR, PyData.eqv, w_do_do, w_do_all, w_do_any, w_do_then, w_do_without, w_do_within, w_do_done, w_do_failed, w_all_do, w_all_all, w_all_any, w_all_then, w_all_without, w_all_within, w_all_done, w_all_failed, w_any_do, w_any_all, w_any_any, w_any_then, w_any_without, w_any_within, w_any_done, w_any_failed, w_then_do, w_then_all, w_then_any, w_then_then, w_then_without, w_then_within, w_then_done, w_then_failed, w_without_do, w_without_all, w_without_any, w_without_then, w_without_without, w_without_within, w_without_done, w_without_failed, w_within_do, w_within_all, w_within_any, w_within_then, w_within_without, w_within_within, w_within_done, w_within_failed, w_done_do, w_done_all, w_done_any, w_done_then, w_done_without, w_done_within, w_done_done, w_done_failed, w_failed_do, w_failed_all, w_failed_any, w_failed_then, w_failed_without, w_failed_within, w_failed_done, w_failed_failed, Res.isDone]
  | failed => simp only [encR, PyData.eqv, w_do_do, w_do_all, w_do_any, w_do_then, w_do_without, w_do_within, w_do_done, w_do_failed, w_all_do, w_all_all, w_all_any, w_all_then, w_all_without, w_all_within, w_all_done, w_all_failed, w_any_do, w_any_all, w_any_any, w_any_then, w_any_without, w_any_within, w_any_done, w_any_failed, w_then_do, w_then_all, w_then_any, w_then_then, w_then_without, w_then_within, w_then_done, w_then_failed, w_without_do, w_without_all, w_without_any, w_without_then, w_without_without, w_without_within, w_without_done, w_without_failed, w_within_do, w_within_all, w_within_any, w_within_then, w_within_without, w_within_within, w_within_done, w_within_failed, w_done_do, w_done_all, w_done_any, w_done_then, w_done_without, w_done_within, w_done_done, w_done_failed, w_failed_do, w_failed_all, w_failed_any, w_failed_then, w_failed_without, w_failed_within, w_failed_done, w_failed_failed, Res.isDone]
  | left t => simp only [encR, eqv_enc_str, Res.isDone]
theorem eqP_of {d e : PyData} (h1 : SeqAt.shaped d = true) (h2 : SeqAt.shaped e = true) : eqP d e = some (.bool (PyData.eqv d e)) := by
  unfold eqP eqD
  rw [h1, h2]
  simp
theorem neP_of {d e : PyData} (h1 : SeqAt.shaped d = true) (h2 : SeqAt.shaped e = true) : neP d e = some (.bool (!PyData.eqv d e)) := by
  unfold neP eqD
  rw [h1, h2]
  simp
theorem eq_failed {n : Nat} {r : Res} (hn : n ≤ 30) (h : okR n r) : eqP (encR r) (.str "failed") = some (.bool r.isFailed) := by rw [eqP_of (encR_shaped hn h) sh_failed, eqv_failed]
theorem eq_done {n : Nat} {r : Res} (hn : n ≤ 30) (h : okR n r) : eqP (encR r) (.str "done") = some (.bool r.isDone) := by rw [eqP_of (encR_shaped hn h) sh_done, eqv_done]
theorem ne_failed {n : Nat} {r : Res} (hn : n ≤ 30) (h : okR n r) : neP (encR r) (.str "failed") = some (.bool (!r.isFailed)) := by rw [neP_of (encR_shaped hn h) sh_failed, eqv_failed]
theorem ne_done {n : Nat} {r : Res} (hn : n ≤ 30) (h : okR n r) : neP (encR r) (.str "done") = some (.bool (!r.isDone)) := by rw [neP_of (encR_shaped hn h) sh_done, eqv_done]
theorem inP_of {d : PyData} {ys : List PyData} (h1 : SeqAt.shaped d = true) (h2 : SeqAt.shaped (.list ys) = true) : inP d (.list ys) = some (.bool (ys.any fun z => PyData.eqv z d)) := by
  unfold inP inD
  simp only [h1, h2, Bool.and_self, Bool.or_true, if_true, Option.map_some]
theorem in_failed {n : Nat} {rs : List Res} (hn : n ≤ 30) (h : ∀ r ∈ rs, okR n r) : inP (.str "failed") (.list (rs.map encR)) = some (.bool (rs.any Res.isFailed)) := by
  rw [inP_of sh_failed (list_shaped hn h), List.any_map]
  congr 3
  funext r
  exact eqv_failed r
theorem in_done {n : Nat} {rs : List Res} (hn : n ≤ 30) (h : ∀ r ∈ rs, okR n r) : inP (.str "done") (.list (rs.map encR)) = some (.bool (rs.any Res.isDone)) := by
  rw [inP_of sh_done (list_shaped hn h), List.any_map]
  congr 3
  funext r
  exact eqv_done r
/-- what stays of results of which none has failed (is done) -/
theorem left_done : ∀ {rs : List Res}, rs.any Res.isFailed = false → (rs.filter fun r => !r.isDone).map encR = (Res.lefts rs).map enc
  | [], _ => rfl
  | .done :: rs, h => by
    simp only [List.any_cons, Res.isFailed, Bool.false_or] at h
    simpa [Res.isDone, Res.lefts] using left_done h
  | .failed :: rs, h => by simp [Res.isFailed] at h
  | .left t :: rs, h => by
    simp only [List.any_cons, Res.isFailed, Bool.false_or] at h
    simpa [Res.isDone, Res.lefts, encR] using left_done h
theorem left_failed : ∀ {rs : List Res}, rs.any Res.isDone = false → (rs.filter fun r => !r.isFailed).map encR = (Res.lefts rs).map enc
  | [], _ => rfl
  | .failed :: rs, h => by
    simp only [List.any_cons, Res.isDone, Bool.false_or] at h
    simpa [Res.isFailed, Res.lefts] using left_failed h
  | .done :: rs, h => by simp [Res.isDone] at h
  | .left t :: rs, h => by
    simp only [List.any_cons, Res.isDone, Bool.false_or] at h
    simpa [Res.isFailed, Res.lefts, encR] using left_failed h
theorem Gw.str_all : Gw.str .all = "all" := rfl
theorem Gw.str_any : Gw.str .any = "any" := rfl
theorem Gw.str_thn : Gw.str .thn = "then" := rfl
theorem len0 {α : Type} (xs : List α) : (((xs.length : Nat) : Int) == 0) = xs.isEmpty := by cases xs <;> simp <;> omega
theorem steps_ok {n : Nat} {ts : List Task} {x : Str} (h : ∀ t ∈ ts, okT n t) : ∀ r ∈ steps x ts, okR n r := fun r hr => by
  rw [steps_map] at hr
  obtain ⟨t, ht, rfl⟩ := List.mem_map.mp hr
  exact step_ok n t x (h t ht)
section
variable {r : Nat → List PyData → Option PyData} {n : Nat} {x : Str}
theorem B_group_all {ts : List Task} (hn : n ≤ 30) (h : ∀ t ∈ ts, okT n t) (hr : ∀ t ∈ ts, r 2 [enc t, .str x] = some (encR (step x t))) :
    runB 2 8 (B_group_behind r) [enc (.grp .all ts), .str x] = some (encR (endAll (steps x ts))) := by
  have c1 : compL (gN 6) fYes (fL (r 2) (fA (fV 6) (fA (fV 1) fA0))) [some (PyData.tuple [.str "all", .tuple (ts.map enc)]), some (.str x), some (.str "done"), some (.str "failed"), none, none, none, none] (ts.map enc) = some ((steps x ts).map encR) := by
    rw [steps_map, List.map_map]
    exact compL_map fun t ht => by
      simp only [runB, fSeq, fIf, fRet, fAsg, fB, f1, f2, fA, fA0, fL, fV, fC, fTup, fLst, fNext, on1, on2, gN, gT, gsC, gs0, asB, fAnd, fOr, fBnd, fBor, fNot, fVB, fIte, fAndV, fOrV, notD, negD, fO, fO0, asI, fSl, fPar, List.map_cons, List.map_nil, List.length_cons, List.length_nil, List.reduceReplicate, List.cons_append, List.nil_append, List.append_nil, List.getElem?_cons_zero, List.getElem?_cons_succ, Option.join_some, Option.join_none, List.set_cons_zero, List.set_cons_succ, Option.bind_some, Option.bind_none, Option.map_some, Option.map_none, Nat.reduceSub, Nat.reduceAdd, Nat.reduceEqDiff, if_true, if_false, Bool.false_eq_true, reduceIte, Nat.zero_add]
      exact hr t ht
  have c2 : compL (gN 7) (fB (f2 neP (fV 7) (fV 2))) (fV 7) [some (PyData.tuple [.str "all", .tuple (ts.map enc)]), some (.str x), some (.str "done"), some (.str "failed"), some (.list ((steps x ts).map encR)), none, none, none] ((steps x ts).map encR) = some (((steps x ts).filter fun r => !r.isDone).map encR) :=
    compL_gen (fun q hq => by
      simp only [runB, fSeq, fIf, fRet, fAsg, fB, f1, f2, fA, fA0, fL, fV, fC, fTup, fLst, fNext, on1, on2, gN, gT, gsC, gs0, asB, fAnd, fOr, fBnd, fBor, fNot, fVB, fIte, fAndV, fOrV, notD, negD, fO, fO0, asI, fSl, fPar, List.map_cons, List.map_nil, List.length_cons, List.length_nil, List.reduceReplicate, List.cons_append, List.nil_append, List.append_nil, List.getElem?_cons_zero, List.getElem?_cons_succ, Option.join_some, Option.join_none, List.set_cons_zero, List.set_cons_succ, Option.bind_some, Option.bind_none, Option.map_some, Option.map_none, Nat.reduceSub, Nat.reduceAdd, Nat.reduceEqDiff, if_true, if_false, Bool.false_eq_true, reduceIte, Nat.zero_add, ne_done hn (steps_ok h q hq)]) fun q _ _ => by simp only [runB, fSeq, fIf, fRet, fAsg, fB, f1, f2, fA, fA0, fL, fV, fC, fTup, fLst, fNext, on1, on2, gN, gT, gsC, gs0, asB, fAnd, fOr, fBnd, fBor, fNot, fVB, fIte, fAndV, fOrV, notD, negD, fO, fO0, asI, fSl, fPar, List.map_cons, List.map_nil, List.length_cons, List.length_nil, List.reduceReplicate, List.cons_append, List.nil_append, List.append_nil, List.getElem?_cons_zero, List.getElem?_cons_succ, Option.join_some, Option.join_none, List.set_cons_zero, List.set_cons_succ, Option.bind_some, Option.bind_none, Option.map_some, Option.map_none, Nat.reduceSub, Nat.reduceAdd, Nat.reduceEqDiff, if_true, if_false, Bool.false_eq_true, reduceIte, Nat.zero_add]
  unfold B_group_behind
  simp only [runB, fSeq, fIf, fRet, fAsg, fB, f1, f2, fA, fA0, fL, fV, fC, fTup, fLst, fNext, on1, on2, gN, gT, gsC, gs0, asB, fAnd, fOr, fBnd, fBor, fNot, fVB, fIte, fAndV, fOrV, notD, negD, fO, fO0, asI, fSl, fPar, List.map_cons, List.map_nil, List.length_cons, List.length_nil, List.reduceReplicate, List.cons_append, List.nil_append, List.append_nil, List.getElem?_cons_zero, List.getElem?_cons_succ, Option.join_some, Option.join_none, List.set_cons_zero, List.set_cons_succ, Option.bind_some, Option.bind_none, Option.map_some, Option.map_none, Nat.reduceSub, Nat.reduceAdd, Nat.reduceEqDiff, if_true, if_false, Bool.false_eq_true, reduceIte, Nat.zero_add, fComp, fItems, itemsOf, extOf, wipeE, fEnum, fRng1, fRng2, fSigns, lenD, tupD, lstD, ix0, ix1, ix2, eq_s, ne_s, eq_i, ne_i, add_i, sub_i, in_t2, in_t3, List.length_map, enc, encs_map, Gw.str_all, w_do_do, w_do_all, w_do_any, w_do_then, w_do_without, w_do_within, w_do_done, w_do_failed, w_all_do, w_all_all, w_all_any, w_all_then, w_all_without, w_all_within, w_all_done, w_all_failed, w_any_do, w_any_all, w_any_any, w_any_then, w_any_without, w_any_within, w_any_done, w_any_failed, w_then_do, w_then_all, w_then_any, w_then_then, w_then_without, w_then_within, w_then_done, w_then_failed, w_without_do, w_without_all, w_without_any, w_without_then, w_without_without, w_without_within, w_without_done, w_without_failed, w_within_do, w_within_all, w_within_any, w_within_then, w_within_without, w_within_within, w_within_done, w_within_failed, w_done_do, w_done_all, w_done_any, w_done_then, w_done_without, w_done_within, w_done_done, w_done_failed, w_failed_do, w_failed_all, w_failed_any, w_failed_then, w_failed_without, w_failed_within, w_failed_done, w_failed_failed, c1, in_failed hn (steps_ok h), endAll]
  cases hf : (steps x ts).any Res.isFailed with
  | true => simp only [runB, fSeq, fIf, fRet, fAsg, fB, f1, f2, fA, fA0, fL, fV, fC, fTup, fLst, fNext, on1, on2, gN, gT, gsC, gs0, asB, fAnd, fOr, fBnd, fBor, fNot, fVB, fIte, fAndV, fOrV, notD, negD, fO, fO0, asI, fSl, fPar, List.map_cons, List.map_nil, List.length_cons, List.length_nil, List.reduceReplicate, List.cons_append, List.nil_append, List.append_nil, List.getElem?_cons_zero, List.getElem?_cons_succ, Option.join_some, Option.join_none, List.set_cons_zero, List.set_cons_succ, Option.bind_some, Option.bind_none, Option.map_some, Option.map_none, Nat.reduceSub, Nat.reduceAdd, Nat.reduceEqDiff, if_true, if_false, Bool.false_eq_true, reduceIte, Nat.zero_add, fComp, fItems, itemsOf, extOf, wipeE, fEnum, fRng1, fRng2, fSigns, lenD, tupD, lstD, ix0, ix1, ix2, eq_s, ne_s, eq_i, ne_i, add_i, sub_i, in_t2, in_t3, List.length_map, encR]
  | false =>
    simp only [runB, fSeq, fIf, fRet, fAsg, fB, f1, f2, fA, fA0, fL, fV, fC, fTup, fLst, fNext, on1, on2, gN, gT, gsC, gs0, asB, fAnd, fOr, fBnd, fBor, fNot, fVB, fIte, fAndV, fOrV, notD, negD, fO, fO0, asI, fSl, fPar, List.map_cons, List.map_nil, List.length_cons, List.length_nil, List.reduceReplicate, List.cons_append, List.nil_append, List.append_nil, List.getElem?_cons_zero, List.getElem?_cons_succ, Option.join_some, Option.join_none, List.set_cons_zero, List.set_cons_succ, Option.bind_some, Option.bind_none, Option.map_some, Option.map_none, Nat.reduceSub, Nat.reduceAdd, Nat.reduceEqDiff, if_true, if_false, Bool.false_eq_true, reduceIte, Nat.zero_add, fComp, fItems, itemsOf, extOf, wipeE, fEnum, fRng1, fRng2, fSigns, lenD, tupD, lstD, ix0, ix1, ix2, eq_s, ne_s, eq_i, ne_i, add_i, sub_i, in_t2, in_t3, List.length_map, c2, left_done hf, len0]
    cases hl : Res.lefts (steps x ts) with
    | nil => simp only [List.isEmpty_nil, runB, fSeq, fIf, fRet, fAsg, fB, f1, f2, fA, fA0, fL, fV, fC, fTup, fLst, fNext, on1, on2, gN, gT, gsC, gs0, asB, fAnd, fOr, fBnd, fBor, fNot, fVB, fIte, fAndV, fOrV, notD, negD, fO, fO0, asI, fSl, fPar, List.map_cons, List.map_nil, List.length_cons, List.length_nil, List.reduceReplicate, List.cons_append, List.nil_append, List.append_nil, List.getElem?_cons_zero, List.getElem?_cons_succ, Option.join_some, Option.join_none, List.set_cons_zero, List.set_cons_succ, Option.bind_some, Option.bind_none, Option.map_some, Option.map_none, Nat.reduceSub, Nat.reduceAdd, Nat.reduceEqDiff, if_true, if_false, Bool.false_eq_true, reduceIte, Nat.zero_add, fComp, fItems, itemsOf, extOf, wipeE, fEnum, fRng1, fRng2, fSigns, lenD, tupD, lstD, ix0, ix1, ix2, eq_s, ne_s, eq_i, ne_i, add_i, sub_i, in_t2, in_t3, List.length_map, encR]
    | cons t l =>
      have := F_groupT .all (t :: l) (by simp)
      simp only [Gw.str_all, List.map_cons] at this
      simp only [List.isEmpty_cons, runB, fSeq, fIf, fRet, fAsg, fB, f1, f2, fA, fA0, fL, fV, fC, fTup, fLst, fNext, on1, on2, gN, gT, gsC, gs0, asB, fAnd, fOr, fBnd, fBor, fNot, fVB, fIte, fAndV, fOrV, notD, negD, fO, fO0, asI, fSl, fPar, List.map_cons, List.map_nil, List.length_cons, List.length_nil, List.reduceReplicate, List.cons_append, List.nil_append, List.append_nil, List.getElem?_cons_zero, List.getElem?_cons_succ, Option.join_some, Option.join_none, List.set_cons_zero, List.set_cons_succ, Option.bind_some, Option.bind_none, Option.map_some, Option.map_none, Nat.reduceSub, Nat.reduceAdd, Nat.reduceEqDiff, if_true, if_false, Bool.false_eq_true, reduceIte, Nat.zero_add, fComp, fItems, itemsOf, extOf, wipeE, fEnum, fRng1, fRng2, fSigns, lenD, tupD, lstD, ix0, ix1, ix2, eq_s, ne_s, eq_i, ne_i, add_i, sub_i, in_t2, in_t3, List.length_map, this, encR]
theorem B_group_any {ts : List Task} (hn : n ≤ 30) (h : ∀ t ∈ ts, okT n t) (hr : ∀ t ∈ ts, r 2 [enc t, .str x] = some (encR (step x t))) :
    runB 2 8 (B_group_behind r) [enc (.grp .any ts), .str x] = some (encR (endAny (steps x ts))) := by
  have c1 : compL (gN 6) fYes (fL (r 2) (fA (fV 6) (fA (fV 1) fA0))) [some (PyData.tuple [.str "any", .tuple (ts.map enc)]), some (.str x), some (.str "failed"), some (.str "done"), none, none, none, none] (ts.map enc) = some ((steps x ts).map encR) := by
    rw [steps_map, List.map_map]
    exact compL_map fun t ht => by
      simp only [runB, fSeq, fIf, fRet, fAsg, fB, f1, f2, fA, fA0, fL, fV, fC, fTup, fLst, fNext, on1, on2, gN, gT, gsC, gs0, asB, fAnd, fOr, fBnd, fBor, fNot, fVB, fIte, fAndV, fOrV, notD, negD, fO, fO0, asI, fSl, fPar, List.map_cons, List.map_nil, List.length_cons, List.length_nil, List.reduceReplicate, List.cons_append, List.nil_append, List.append_nil, List.getElem?_cons_zero, List.getElem?_cons_succ, Option.join_some, Option.join_none, List.set_cons_zero, List.set_cons_succ, Option.bind_some, Option.bind_none, Option.map_some, Option.map_none, Nat.reduceSub, Nat.reduceAdd, Nat.reduceEqDiff, if_true, if_false, Bool.false_eq_true, reduceIte, Nat.zero_add]
      exact hr t ht
  have c2 : compL (gN 7) (fB (f2 neP (fV 7) (fV 2))) (fV 7) [some (PyData.tuple [.str "any", .tuple (ts.map enc)]), some (.str x), some (.str "failed"), some (.str "done"), some (.list ((steps x ts).map encR)), none, none, none] ((steps x ts).map encR) = some (((steps x ts).filter fun r => !r.isFailed).map encR) :=
    compL_gen (fun q hq => by
      simp only [runB, fSeq, fIf, fRet, fAsg, fB, f1, f2, fA, fA0, fL, fV, fC, fTup, fLst, fNext, on1, on2, gN, gT, gsC, gs0, asB, fAnd, fOr, fBnd, fBor, fNot, fVB, fIte, fAndV, fOrV, notD, negD, fO, fO0, asI, fSl, fPar, List.map_cons, List.map_nil, List.length_cons, List.length_nil, List.reduceReplicate, List.cons_append, List.nil_append, List.append_nil, List.getElem?_cons_zero, List.getElem?_cons_succ, Option.join_some, Option.join_none, List.set_cons_zero, List.set_cons_succ, Option.bind_some, Option.bind_none, Option.map_some, Option.map_none, Nat.reduceSub, Nat.reduceAdd, Nat.reduceEqDiff, if_true, if_false, Bool.false_eq_true, reduceIte, Nat.zero_add, ne_failed hn (steps_ok h q hq)]) fun q _ _ => by simp only [runB, fSeq, fIf, fRet, fAsg, fB, f1, f2, fA, fA0, fL, fV, fC, fTup, fLst, fNext, on1, on2, gN, gT, gsC, gs0, asB, fAnd, fOr, fBnd, fBor, fNot, fVB, fIte, fAndV, fOrV, notD, negD, fO, fO0, asI, fSl, fPar, List.map_cons, List.map_nil, List.length_cons, List.length_nil, List.reduceReplicate, List.cons_append, List.nil_append, List.append_nil, List.getElem?_cons_zero, List.getElem?_cons_succ, Option.join_some, Option.join_none, List.set_cons_zero, List.set_cons_succ, Option.bind_some, Option.bind_none, Option.map_some, Option.map_none, Nat.reduceSub, Nat.reduceAdd, Nat.reduceEqDiff, if_true, if_false, Bool.false_eq_true, reduceIte, Nat.zero_add]
  unfold B_group_behind
  simp only [runB, fSeq, fIf, fRet, fAsg, fB, f1, f2, fA, fA0, fL, fV, fC, fTup, fLst, fNext, on1, on2, gN, gT, gsC, gs0, asB, fAnd, fOr, fBnd, fBor, fNot, fVB, fIte, fAndV, fOrV, notD, negD, fO, fO0, asI, fSl, fPar, List.map_cons, List.map_nil, List.length_cons, List.length_nil, List.reduceReplicate, List.cons_append, List.nil_append, List.append_nil, List.getElem?_cons_zero, List.getElem?_cons_succ, Option.join_some, Option.join_none, List.set_cons_zero, List.set_cons_succ, Option.bind_some, Option.bind_none, Option.map_some, Option.map_none, Nat.reduceSub, Nat.reduceAdd, Nat.reduceEqDiff, if_true, if_false, Bool.false_eq_true, reduceIte, Nat.zero_add, fComp, fItems, itemsOf, extOf, wipeE, fEnum, fRng1, fRng2, fSigns, lenD, tupD, lstD, ix0, ix1, ix2, eq_s, ne_s, eq_i, ne_i, add_i, sub_i, in_t2, in_t3, List.length_map, enc, encs_map, Gw.str_any, w_do_do, w_do_all, w_do_any, w_do_then, w_do_without, w_do_within, w_do_done, w_do_failed, w_all_do, w_all_all, w_all_any, w_all_then, w_all_without, w_all_within, w_all_done, w_all_failed, w_any_do, w_any_all, w_any_any, w_any_then, w_any_without, w_any_within, w_any_done, w_any_failed, w_then_do, w_then_all, w_then_any, w_then_then, w_then_without, w_then_within, w_then_done, w_then_failed, w_without_do, w_without_all, w_without_any, w_without_then, w_without_without, w_without_within, w_without_done, w_without_failed, w_within_do, w_within_all, w_within_any, w_within_then, w_within_without, w_within_within, w_within_done, w_within_failed, w_done_do, w_done_all, w_done_any, w_done_then, w_done_without, w_done_within, w_done_done, w_done_failed, w_failed_do, w_failed_all, w_failed_any, w_failed_then, w_failed_without, w_failed_within, w_failed_done, w_failed_failed, c1, in_done hn (steps_ok h), endAny]
  cases hf : (steps x ts).any Res.isDone with
  | true => simp only [runB, fSeq, fIf, fRet, fAsg, fB, f1, f2, fA, fA0, fL, fV, fC, fTup, fLst, fNext, on1, on2, gN, gT, gsC, gs0, asB, fAnd, fOr, fBnd, fBor, fNot, fVB, fIte, fAndV, fOrV, notD, negD, fO, fO0, asI, fSl, fPar, List.map_cons, List.map_nil, List.length_cons, List.length_nil, List.reduceReplicate, List.cons_append, List.nil_append, List.append_nil, List.getElem?_cons_zero, List.getElem?_cons_succ, Option.join_some, Option.join_none, List.set_cons_zero, List.set_cons_succ, Option.bind_some, Option.bind_none, Option.map_some, Option.map_none, Nat.reduceSub, Nat.reduceAdd, Nat.reduceEqDiff, if_true, if_false, Bool.false_eq_true, reduceIte, Nat.zero_add, fComp, fItems, itemsOf, extOf, wipeE, fEnum, fRng1, fRng2, fSigns, lenD, tupD, lstD, ix0, ix1, ix2, eq_s, ne_s, eq_i, ne_i, add_i, sub_i, in_t2, in_t3, List.length_map, encR]
  | false =>
    simp only [runB, fSeq, fIf, fRet, fAsg, fB, f1, f2, fA, fA0, fL, fV, fC, fTup, fLst, fNext, on1, on2, gN, gT, gsC, gs0, asB, fAnd, fOr, fBnd, fBor, fNot, fVB, fIte, fAndV, fOrV, notD, negD, fO, fO0, asI, fSl, fPar, List.map_cons, List.map_nil, List.length_cons, List.length_nil, List.reduceReplicate, List.cons_append, List.nil_append, List.append_nil, List.getElem?_cons_zero, List.getElem?_cons_succ, Option.join_some, Option.join_none, List.set_cons_zero, List.set_cons_succ, Option.bind_some, Option.bind_none, Option.map_some, Option.map_none, Nat.reduceSub, Nat.reduceAdd, Nat.reduceEqDiff, if_true, if_false, Bool.false_eq_true, reduceIte, Nat.zero_add, fComp, fItems, itemsOf, extOf, wipeE, fEnum, fRng1, fRng2, fSigns, lenD, tupD, lstD, ix0, ix1, ix2, eq_s, ne_s, eq_i, ne_i, add_i, sub_i, in_t2, in_t3, List.length_map, c2, left_failed hf, len0]
    cases hl : Res.lefts (steps x ts) with
    | nil => simp only [List.isEmpty_nil, runB, fSeq, fIf, fRet, fAsg, fB, f1, f2, fA, fA0, fL, fV, fC, fTup, fLst, fNext, on1, on2, gN, gT, gsC, gs0, asB, fAnd, fOr, fBnd, fBor, fNot, fVB, fIte, fAndV, fOrV, notD, negD, fO, fO0, asI, fSl, fPar, List.map_cons, List.map_nil, List.length_cons, List.length_nil, List.reduceReplicate, List.cons_append, List.nil_append, List.append_nil, List.getElem?_cons_zero, List.getElem?_cons_succ, Option.join_some, Option.join_none, List.set_cons_zero, List.set_cons_succ, Option.bind_some, Option.bind_none, Option.map_some, Option.map_none, Nat.reduceSub, Nat.reduceAdd, Nat.reduceEqDiff, if_true, if_false, Bool.false_eq_true, reduceIte, Nat.zero_add, fComp, fItems, itemsOf, extOf, wipeE, fEnum, fRng1, fRng2, fSigns, lenD, tupD, lstD, ix0, ix1, ix2, eq_s, ne_s, eq_i, ne_i, add_i, sub_i, in_t2, in_t3, List.length_map, encR]
    | cons t l =>
      have := F_groupT .any (t :: l) (by simp)
      simp only [Gw.str_any, List.map_cons] at this
      simp only [List.isEmpty_cons, runB, fSeq, fIf, fRet, fAsg, fB, f1, f2, fA, fA0, fL, fV, fC, fTup, fLst, fNext, on1, on2, gN, gT, gsC, gs0, asB, fAnd, fOr, fBnd, fBor, fNot, fVB, fIte, fAndV, fOrV, notD, negD, fO, fO0, asI, fSl, fPar, List.map_cons, List.map_nil, List.length_cons, List.length_nil, List.reduceReplicate, List.cons_append, List.nil_append, List.append_nil, List.getElem?_cons_zero, List.getElem?_cons_succ, Option.join_some, Option.join_none, List.set_cons_zero, List.set_cons_succ, Option.bind_some, Option.bind_none, Option.map_some, Option.map_none, Nat.reduceSub, Nat.reduceAdd, Nat.reduceEqDiff, if_true, if_false, Bool.false_eq_true, reduceIte, Nat.zero_add, fComp, fItems, itemsOf, extOf, wipeE, fEnum, fRng1, fRng2, fSigns, lenD, tupD, lstD, ix0, ix1, ix2, eq_s, ne_s, eq_i, ne_i, add_i, sub_i, in_t2, in_t3, List.length_map, this, encR]
theorem cut1 {α : Type} (a : α) (r : List α) : cutL (a :: r) (some 1) none = r := by
  have h : HT.sIx (r.length + 1) 0 (some 1) = 1 := by
    have := HT.sIx_nat (r.length + 1) 0 1
    rw [show ((1 : Nat) : Int) = 1 from rfl] at this
    rw [this]
    omega
  unfold cutL
  rw [List.length_cons, h, HT.sIx_none]
  simp
theorem B_thn {t : Task} {ts : List Task} (hn : n ≤ 30) (h : okT n t) (hr : r 2 [enc t, .str x] = some (encR (step x t))) (hl : ts.length ≤ 1000) :
    runB 2 4 (B_then_behind r) [enc (.grp .thn (t :: ts)), .str x] = some (encR (endThn (step x t) ts)) := by
  have ho := step_ok n t x h
  unfold B_then_behind
  simp only [runB, fSeq, fIf, fRet, fAsg, fB, f1, f2, fA, fA0, fL, fV, fC, fTup, fLst, fNext, on1, on2, gN, gT, gsC, gs0, asB, fAnd, fOr, fBnd, fBor, fNot, fVB, fIte, fAndV, fOrV, notD, negD, fO, fO0, asI, fSl, fPar, List.map_cons, List.map_nil, List.length_cons, List.length_nil, List.reduceReplicate, List.cons_append, List.nil_append, List.append_nil, List.getElem?_cons_zero, List.getElem?_cons_succ, Option.join_some, Option.join_none, List.set_cons_zero, List.set_cons_succ, Option.bind_some, Option.bind_none, Option.map_some, Option.map_none, Nat.reduceSub, Nat.reduceAdd, Nat.reduceEqDiff, if_true, if_false, Bool.false_eq_true, reduceIte, Nat.zero_add, fComp, fItems, itemsOf, extOf, wipeE, fEnum, fRng1, fRng2, fSigns, lenD, tupD, lstD, ix0, ix1, ix2, eq_s, ne_s, eq_i, ne_i, add_i, sub_i, in_t2, in_t3, List.length_map, enc, encs_map, Gw.str_thn, w_do_do, w_do_all, w_do_any, w_do_then, w_do_without, w_do_within, w_do_done, w_do_failed, w_all_do, w_all_all, w_all_any, w_all_then, w_all_without, w_all_within, w_all_done, w_all_failed, w_any_do, w_any_all, w_any_any, w_any_then, w_any_without, w_any_within, w_any_done, w_any_failed, w_then_do, w_then_all, w_then_any, w_then_then, w_then_without, w_then_within, w_then_done, w_then_failed, w_without_do, w_without_all, w_without_any, w_without_then, w_without_without, w_without_within, w_without_done, w_without_failed, w_within_do, w_within_all, w_within_any, w_within_then, w_within_without, w_within_within, w_within_done, w_within_failed, w_done_do, w_done_all, w_done_any, w_done_then, w_done_without, w_done_within, w_done_done, w_done_failed, w_failed_do, w_failed_all, w_failed_any, w_failed_then, w_failed_without, w_failed_within, w_failed_done, w_failed_failed, hr, eq_failed hn ho, endThn]
  cases e : step x t with
  | failed => simp only [Res.isFailed, runB, fSeq, fIf, fRet, fAsg, fB, f1, f2, fA, fA0, fL, fV, fC, fTup, fLst, fNext, on1, on2, gN, gT, gsC, gs0, asB, fAnd, fOr, fBnd, fBor, fNot, fVB, fIte, fAndV, fOrV, notD, negD, fO, fO0, asI, fSl, fPar, List.map_cons, List.map_nil, List.length_cons, List.length_nil, List.reduceReplicate, List.cons_append, List.nil_append, List.append_nil, List.getElem?_cons_zero, List.getElem?_cons_succ, Option.join_some, Option.join_none, List.set_cons_zero, List.set_cons_succ, Option.bind_some, Option.bind_none, Option.map_some, Option.map_none, Nat.reduceSub, Nat.reduceAdd, Nat.reduceEqDiff, if_true, if_false, Bool.false_eq_true, reduceIte, Nat.zero_add, fComp, fItems, itemsOf, extOf, wipeE, fEnum, fRng1, fRng2, fSigns, lenD, tupD, lstD, ix0, ix1, ix2, eq_s, ne_s, eq_i, ne_i, add_i, sub_i, in_t2, in_t3, List.length_map, encR]
  | left u =>
    have hg := F_groupT .thn (u :: ts) (by simp)
    rw [e] at ho
    have hne := ne_done hn ho
    simp only [Gw.str_thn, List.map_cons] at hg
    have hz : 1 + ts.length ≤ sizeLine := Nat.le_trans (by omega : 1 + ts.length ≤ 1001) (by decide)
    simp only [Res.isFailed, runB, fSeq, fIf, fRet, fAsg, fB, f1, f2, fA, fA0, fL, fV, fC, fTup, fLst, fNext, on1, on2, gN, gT, gsC, gs0, asB, fAnd, fOr, fBnd, fBor, fNot, fVB, fIte, fAndV, fOrV, notD, negD, fO, fO0, asI, fSl, fPar, List.map_cons, List.map_nil, List.length_cons, List.length_nil, List.reduceReplicate, List.cons_append, List.nil_append, List.append_nil, List.getElem?_cons_zero, List.getElem?_cons_succ, Option.join_some, Option.join_none, List.set_cons_zero, List.set_cons_succ, Option.bind_some, Option.bind_none, Option.map_some, Option.map_none, Nat.reduceSub, Nat.reduceAdd, Nat.reduceEqDiff, if_true, if_false, Bool.false_eq_true, reduceIte, Nat.zero_add, fComp, fItems, itemsOf, extOf, wipeE, fEnum, fRng1, fRng2, fSigns, lenD, tupD, lstD, ix0, ix1, ix2, eq_s, ne_s, eq_i, ne_i, add_i, sub_i, in_t2, in_t3, List.length_map, slD, cut1, hne, Res.isDone, Bool.not_false, addD, List.length_singleton, if_pos hz, List.singleton_append]
    simp only [encR, hg, runB, fSeq, fIf, fRet, fAsg, fB, f1, f2, fA, fA0, fL, fV, fC, fTup, fLst, fNext, on1, on2, gN, gT, gsC, gs0, asB, fAnd, fOr, fBnd, fBor, fNot, fVB, fIte, fAndV, fOrV, notD, negD, fO, fO0, asI, fSl, fPar, List.map_cons, List.map_nil, List.length_cons, List.length_nil, List.reduceReplicate, List.cons_append, List.nil_append, List.append_nil, List.getElem?_cons_zero, List.getElem?_cons_succ, Option.join_some, Option.join_none, List.set_cons_zero, List.set_cons_succ, Option.bind_some, Option.bind_none, Option.map_some, Option.map_none, Nat.reduceSub, Nat.reduceAdd, Nat.reduceEqDiff, if_true, if_false, Bool.false_eq_true, reduceIte, Nat.zero_add, fComp, fItems, itemsOf, extOf, wipeE, fEnum, fRng1, fRng2, fSigns, lenD, tupD, lstD, ix0, ix1, ix2, eq_s, ne_s, eq_i, ne_i, add_i, sub_i, in_t2, in_t3, List.length_map]
  | done =>
    rw [e] at ho
    have hne := ne_done hn ho
    simp only [Res.isFailed, runB, fSeq, fIf, fRet, fAsg, fB, f1, f2, fA, fA0, fL, fV, fC, fTup, fLst, fNext, on1, on2, gN, gT, gsC, gs0, asB, fAnd, fOr, fBnd, fBor, fNot, fVB, fIte, fAndV, fOrV, notD, negD, fO, fO0, asI, fSl, fPar, List.map_cons, List.map_nil, List.length_cons, List.length_nil, List.reduceReplicate, List.cons_append, List.nil_append, List.append_nil, List.getElem?_cons_zero, List.getElem?_cons_succ, Option.join_some, Option.join_none, List.set_cons_zero, List.set_cons_succ, Option.bind_some, Option.bind_none, Option.map_some, Option.map_none, Nat.reduceSub, Nat.reduceAdd, Nat.reduceEqDiff, if_true, if_false, Bool.false_eq_true, reduceIte, Nat.zero_add, fComp, fItems, itemsOf, extOf, wipeE, fEnum, fRng1, fRng2, fSigns, lenD, tupD, lstD, ix0, ix1, ix2, eq_s, ne_s, eq_i, ne_i, add_i, sub_i, in_t2, in_t3, List.length_map, slD, cut1, hne, Res.isDone, Bool.not_true, len0]
    cases ts with
    | nil => simp only [List.isEmpty_nil, runB, fSeq, fIf, fRet, fAsg, fB, f1, f2, fA, fA0, fL, fV, fC, fTup, fLst, fNext, on1, on2, gN, gT, gsC, gs0, asB, fAnd, fOr, fBnd, fBor, fNot, fVB, fIte, fAndV, fOrV, notD, negD, fO, fO0, asI, fSl, fPar, List.map_cons, List.map_nil, List.length_cons, List.length_nil, List.reduceReplicate, List.cons_append, List.nil_append, List.append_nil, List.getElem?_cons_zero, List.getElem?_cons_succ, Option.join_some, Option.join_none, List.set_cons_zero, List.set_cons_succ, Option.bind_some, Option.bind_none, Option.map_some, Option.map_none, Nat.reduceSub, Nat.reduceAdd, Nat.reduceEqDiff, if_true, if_false, Bool.false_eq_true, reduceIte, Nat.zero_add, fComp, fItems, itemsOf, extOf, wipeE, fEnum, fRng1, fRng2, fSigns, lenD, tupD, lstD, ix0, ix1, ix2, eq_s, ne_s, eq_i, ne_i, add_i, sub_i, in_t2, in_t3, List.length_map, encR]
    | cons u l =>
      have hg := F_groupT .thn (u :: l) (by simp)
      simp only [Gw.str_thn, List.map_cons] at hg
      simp only [List.isEmpty_cons, runB, fSeq, fIf, fRet, fAsg, fB, f1, f2, fA, fA0, fL, fV, fC, fTup, fLst, fNext, on1, on2, gN, gT, gsC, gs0, asB, fAnd, fOr, fBnd, fBor, fNot, fVB, fIte, fAndV, fOrV, notD, negD, fO, fO0, asI, fSl, fPar, List.map_cons, List.map_nil, List.length_cons, List.length_nil, List.reduceReplicate, List.cons_append, List.nil_append, List.append_nil, List.getElem?_cons_zero, List.getElem?_cons_succ, Option.join_some, Option.join_none, List.set_cons_zero, List.set_cons_succ, Option.bind_some, Option.bind_none, Option.map_some, Option.map_none, Nat.reduceSub, Nat.reduceAdd, Nat.reduceEqDiff, if_true, if_false, Bool.false_eq_true, reduceIte, Nat.zero_add, fComp, fItems, itemsOf, extOf, wipeE, fEnum, fRng1, fRng2, fSigns, lenD, tupD, lstD, ix0, ix1, ix2, eq_s, ne_s, eq_i, ne_i, add_i, sub_i, in_t2, in_t3, List.length_map, hg, encR]
end
end Tk

namespace Tk
open PySem L2 Tl
theorem beq_str {x d : Str} (h : x = d) : (x == d) = true := by rw [h]; exact beq_self_eq_true d
theorem bne_str {x d : Str} (h : x ≠ d) : (x == d) = false := beq_eq_false_iff_ne.mpr h
theorem beq_int {x d : Int} (h : x = d) : (x == d) = true := by rw [h]; exact beq_self_eq_true d
theorem bne_int {x d : Int} (h : x ≠ d) : (x == d) = false := beq_eq_false_iff_ne.mpr h
/-! ### behind -/
theorem G_behind : ∀ (k n : Nat) (t : Task) (x : Str), k ≤ 30 → okT k t → 2 * k ≤ n → G_group_behind n 2 [enc t, .str x] = some (encR (step x t))
  | 0, _, _, _, _, h, _ => h.elim
  | k + 1, 0, _, _, _, _, hn => by omega
  | k + 1, 1, _, _, _, _, hn => by omega
  | k + 1, n + 2, t, x, hk, h, hn => by
    have ih : ∀ t, okT k t → G_group_behind n 2 [enc t, .str x] = some (encR (step x t)) := fun t ht => G_behind k n t x (by omega) ht (by omega)
    have ih1 : ∀ t, okT k t → G_group_behind (n + 1) 2 [enc t, .str x] = some (encR (step x t)) := fun t ht => G_behind k (n + 1) t x (by omega) ht (by omega)
    show runB 2 4 (B_behind (G_group_behind (n + 1))) [enc t, .str x] = _
    unfold B_behind
    cases t with
    | one d m =>
      simp only [runB, fSeq, fIf, fRet, fAsg, fB, f1, f2, fA, fA0, fL, fV, fC, fTup, fLst, fNext, on1, on2, gN, gT, gsC, gs0, asB, fAnd, fOr, fBnd, fBor, fNot, fVB, fIte, fAndV, fOrV, notD, negD, fO, fO0, asI, fSl, fPar, List.map_cons, List.map_nil, List.length_cons, List.length_nil, List.reduceReplicate, List.cons_append, List.nil_append, List.append_nil, List.getElem?_cons_zero, List.getElem?_cons_succ, Option.join_some, Option.join_none, List.set_cons_zero, List.set_cons_succ, Option.bind_some, Option.bind_none, Option.map_some, Option.map_none, Nat.reduceSub, Nat.reduceAdd, Nat.reduceEqDiff, if_true, if_false, Bool.false_eq_true, reduceIte, Nat.zero_add, fComp, fItems, itemsOf, extOf, wipeE, fEnum, fRng1, fRng2, fSigns, lenD, tupD, lstD, ix0, ix1, ix2, eq_s, ne_s, eq_i, ne_i, add_i, sub_i, in_t2, in_t3, List.length_map, enc, w_do_do, w_do_all, w_do_any, w_do_then, w_do_without, w_do_within, w_do_done, w_do_failed, w_all_do, w_all_all, w_all_any, w_all_then, w_all_without, w_all_within, w_all_done, w_all_failed, w_any_do, w_any_all, w_any_any, w_any_then, w_any_without, w_any_within, w_any_done, w_any_failed, w_then_do, w_then_all, w_then_any, w_then_then, w_then_without, w_then_within, w_then_done, w_then_failed, w_without_do, w_without_all, w_without_any, w_without_then, w_without_without, w_without_within, w_without_done, w_without_failed, w_within_do, w_within_all, w_within_any, w_within_then, w_within_without, w_within_within, w_within_done, w_within_failed, w_done_do, w_done_all, w_done_any, w_done_then, w_done_without, w_done_within, w_done_done, w_done_failed, w_failed_do, w_failed_all, w_failed_any, w_failed_then, w_failed_without, w_failed_within, w_failed_done, w_failed_failed, step]
      by_cases hx : x = d
      · simp only [beq_str hx, if_pos hx, Bool.not_true, runB, fSeq, fIf, fRet, fAsg, fB, f1, f2, fA, fA0, fL, fV, fC, fTup, fLst, fNext, on1, on2, gN, gT, gsC, gs0, asB, fAnd, fOr, fBnd, fBor, fNot, fVB, fIte, fAndV, fOrV, notD, negD, fO, fO0, asI, fSl, fPar, List.map_cons, List.map_nil, List.length_cons, List.length_nil, List.reduceReplicate, List.cons_append, List.nil_append, List.append_nil, List.getElem?_cons_zero, List.getElem?_cons_succ, Option.join_some, Option.join_none, List.set_cons_zero, List.set_cons_succ, Option.bind_some, Option.bind_none, Option.map_some, Option.map_none, Nat.reduceSub, Nat.reduceAdd, Nat.reduceEqDiff, if_true, if_false, Bool.false_eq_true, reduceIte, Nat.zero_add, fComp, fItems, itemsOf, extOf, wipeE, fEnum, fRng1, fRng2, fSigns, lenD, tupD, lstD, ix0, ix1, ix2, eq_s, ne_s, eq_i, ne_i, add_i, sub_i, in_t2, in_t3, List.length_map]
        by_cases hm : m = 1
        · simp only [beq_int hm, if_pos hm, runB, fSeq, fIf, fRet, fAsg, fB, f1, f2, fA, fA0, fL, fV, fC, fTup, fLst, fNext, on1, on2, gN, gT, gsC, gs0, asB, fAnd, fOr, fBnd, fBor, fNot, fVB, fIte, fAndV, fOrV, notD, negD, fO, fO0, asI, fSl, fPar, List.map_cons, List.map_nil, List.length_cons, List.length_nil, List.reduceReplicate, List.cons_append, List.nil_append, List.append_nil, List.getElem?_cons_zero, List.getElem?_cons_succ, Option.join_some, Option.join_none, List.set_cons_zero, List.set_cons_succ, Option.bind_some, Option.bind_none, Option.map_some, Option.map_none, Nat.reduceSub, Nat.reduceAdd, Nat.reduceEqDiff, if_true, if_false, Bool.false_eq_true, reduceIte, Nat.zero_add, fComp, fItems, itemsOf, extOf, wipeE, fEnum, fRng1, fRng2, fSigns, lenD, tupD, lstD, ix0, ix1, ix2, eq_s, ne_s, eq_i, ne_i, add_i, sub_i, in_t2, in_t3, List.length_map, encR]
        · simp only [bne_int hm, if_neg hm, runB, fSeq, fIf, fRet, fAsg, fB, f1, f2, fA, fA0, fL, fV, fC, fTup, fLst, fNext, on1, on2, gN, gT, gsC, gs0, asB, fAnd, fOr, fBnd, fBor, fNot, fVB, fIte, fAndV, fOrV, notD, negD, fO, fO0, asI, fSl, fPar, List.map_cons, List.map_nil, List.length_cons, List.length_nil, List.reduceReplicate, List.cons_append, List.nil_append, List.append_nil, List.getElem?_cons_zero, List.getElem?_cons_succ, Option.join_some, Option.join_none, List.set_cons_zero, List.set_cons_succ, Option.bind_some, Option.bind_none, Option.map_some, Option.map_none, Nat.reduceSub, Nat.reduceAdd, Nat.reduceEqDiff, if_true, if_false, Bool.false_eq_true, reduceIte, Nat.zero_add, fComp, fItems, itemsOf, extOf, wipeE, fEnum, fRng1, fRng2, fSigns, lenD, tupD, lstD, ix0, ix1, ix2, eq_s, ne_s, eq_i, ne_i, add_i, sub_i, in_t2, in_t3, List.length_map, encR, enc, hx]
      · simp only [bne_str hx, if_neg hx, Bool.not_false, runB, fSeq, fIf, fRet, fAsg, fB, f1, f2, fA, fA0, fL, fV, fC, fTup, fLst, fNext, on1, on2, gN, gT, gsC, gs0, asB, fAnd, fOr, fBnd, fBor, fNot, fVB, fIte, fAndV, fOrV, notD, negD, fO, fO0, asI, fSl, fPar, List.map_cons, List.map_nil, List.length_cons, List.length_nil, List.reduceReplicate, List.cons_append, List.nil_append, List.append_nil, List.getElem?_cons_zero, List.getElem?_cons_succ, Option.join_some, Option.join_none, List.set_cons_zero, List.set_cons_succ, Option.bind_some, Option.bind_none, Option.map_some, Option.map_none, Nat.reduceSub, Nat.reduceAdd, Nat.reduceEqDiff, if_true, if_false, Bool.false_eq_true, reduceIte, Nat.zero_add, fComp, fItems, itemsOf, extOf, wipeE, fEnum, fRng1, fRng2, fSigns, lenD, tupD, lstD, ix0, ix1, ix2, eq_s, ne_s, eq_i, ne_i, add_i, sub_i, in_t2, in_t3, List.length_map, encR, enc]
    | grp w ts =>
      cases w with
      | all =>
        have q := B_group_all (r := G_group_behind n) (x := x) (by omega) h.2.2 fun t ht => ih t (h.2.2 t ht)
        have q' : G_group_behind (n + 1) 0 [enc (.grp .all ts), .str x] = some (encR (endAll (steps x ts))) := q
        simp only [enc, Gw.str_all] at q' ⊢
        simp only [runB, fSeq, fIf, fRet, fAsg, fB, f1, f2, fA, fA0, fL, fV, fC, fTup, fLst, fNext, on1, on2, gN, gT, gsC, gs0, asB, fAnd, fOr, fBnd, fBor, fNot, fVB, fIte, fAndV, fOrV, notD, negD, fO, fO0, asI, fSl, fPar, List.map_cons, List.map_nil, List.length_cons, List.length_nil, List.reduceReplicate, List.cons_append, List.nil_append, List.append_nil, List.getElem?_cons_zero, List.getElem?_cons_succ, Option.join_some, Option.join_none, List.set_cons_zero, List.set_cons_succ, Option.bind_some, Option.bind_none, Option.map_some, Option.map_none, Nat.reduceSub, Nat.reduceAdd, Nat.reduceEqDiff, if_true, if_false, Bool.false_eq_true, reduceIte, Nat.zero_add, fComp, fItems, itemsOf, extOf, wipeE, fEnum, fRng1, fRng2, fSigns, lenD, tupD, lstD, ix0, ix1, ix2, eq_s, ne_s, eq_i, ne_i, add_i, sub_i, in_t2, in_t3, List.length_map, w_do_do, w_do_all, w_do_any, w_do_then, w_do_without, w_do_within, w_do_done, w_do_failed, w_all_do, w_all_all, w_all_any, w_all_then, w_all_without, w_all_within, w_all_done, w_all_failed, w_any_do, w_any_all, w_any_any, w_any_then, w_any_without, w_any_within, w_any_done, w_any_failed, w_then_do, w_then_all, w_then_any, w_then_then, w_then_without, w_then_within, w_then_done, w_then_failed, w_without_do, w_without_all, w_without_any, w_without_then, w_without_without, w_without_within, w_without_done, w_without_failed, w_within_do, w_within_all, w_within_any, w_within_then, w_within_without, w_within_within, w_within_done, w_within_failed, w_done_do, w_done_all, w_done_any, w_done_then, w_done_without, w_done_within, w_done_done, w_done_failed, w_failed_do, w_failed_all, w_failed_any, w_failed_then, w_failed_without, w_failed_within, w_failed_done, w_failed_failed, Bool.or_false, Bool.or_true, Bool.or_self, step, q']
      | any =>
        have q := B_group_any (r := G_group_behind n) (x := x) (by omega) h.2.2 fun t ht => ih t (h.2.2 t ht)
        have q' : G_group_behind (n + 1) 0 [enc (.grp .any ts), .str x] = some (encR (endAny (steps x ts))) := q
        simp only [enc, Gw.str_any] at q' ⊢
        simp only [runB, fSeq, fIf, fRet, fAsg, fB, f1, f2, fA, fA0, fL, fV, fC, fTup, fLst, fNext, on1, on2, gN, gT, gsC, gs0, asB, fAnd, fOr, fBnd, fBor, fNot, fVB, fIte, fAndV, fOrV, notD, negD, fO, fO0, asI, fSl, fPar, List.map_cons, List.map_nil, List.length_cons, List.length_nil, List.reduceReplicate, List.cons_append, List.nil_append, List.append_nil, List.getElem?_cons_zero, List.getElem?_cons_succ, Option.join_some, Option.join_none, List.set_cons_zero, List.set_cons_succ, Option.bind_some, Option.bind_none, Option.map_some, Option.map_none, Nat.reduceSub, Nat.reduceAdd, Nat.reduceEqDiff, if_true, if_false, Bool.false_eq_true, reduceIte, Nat.zero_add, fComp, fItems, itemsOf, extOf, wipeE, fEnum, fRng1, fRng2, fSigns, lenD, tupD, lstD, ix0, ix1, ix2, eq_s, ne_s, eq_i, ne_i, add_i, sub_i, in_t2, in_t3, List.length_map, w_do_do, w_do_all, w_do_any, w_do_then, w_do_without, w_do_within, w_do_done, w_do_failed, w_all_do, w_all_all, w_all_any, w_all_then, w_all_without, w_all_within, w_all_done, w_all_failed, w_any_do, w_any_all, w_any_any, w_any_then, w_any_without, w_any_within, w_any_done, w_any_failed, w_then_do, w_then_all, w_then_any, w_then_then, w_then_without, w_then_within, w_then_done, w_then_failed, w_without_do, w_without_all, w_without_any, w_without_then, w_without_without, w_without_within, w_without_done, w_without_failed, w_within_do, w_within_all, w_within_any, w_within_then, w_within_without, w_within_within, w_within_done, w_within_failed, w_done_do, w_done_all, w_done_any, w_done_then, w_done_without, w_done_within, w_done_done, w_done_failed, w_failed_do, w_failed_all, w_failed_any, w_failed_then, w_failed_without, w_failed_within, w_failed_done, w_failed_failed, Bool.or_false, Bool.or_true, Bool.or_self, step, q']
      | thn =>
        match ts, h with
        | [], h => exact absurd rfl h.1
        | t :: ts, h =>
          have ht := h.2.2 t List.mem_cons_self
          have q := B_thn (r := G_group_behind n) (x := x) (ts := ts) (by omega) ht (ih t ht) (Nat.le_trans (Nat.le_succ _) h.2.1.2)
          have q' : G_group_behind (n + 1) 1 [enc (.grp .thn (t :: ts)), .str x] = some (encR (endThn (step x t) ts)) := q
          simp only [enc, Gw.str_thn] at q' ⊢
          simp only [runB, fSeq, fIf, fRet, fAsg, fB, f1, f2, fA, fA0, fL, fV, fC, fTup, fLst, fNext, on1, on2, gN, gT, gsC, gs0, asB, fAnd, fOr, fBnd, fBor, fNot, fVB, fIte, fAndV, fOrV, notD, negD, fO, fO0, asI, fSl, fPar, List.map_cons, List.map_nil, List.length_cons, List.length_nil, List.reduceReplicate, List.cons_append, List.nil_append, List.append_nil, List.getElem?_cons_zero, List.getElem?_cons_succ, Option.join_some, Option.join_none, List.set_cons_zero, List.set_cons_succ, Option.bind_some, Option.bind_none, Option.map_some, Option.map_none, Nat.reduceSub, Nat.reduceAdd, Nat.reduceEqDiff, if_true, if_false, Bool.false_eq_true, reduceIte, Nat.zero_add, fComp, fItems, itemsOf, extOf, wipeE, fEnum, fRng1, fRng2, fSigns, lenD, tupD, lstD, ix0, ix1, ix2, eq_s, ne_s, eq_i, ne_i, add_i, sub_i, in_t2, in_t3, List.length_map, w_do_do, w_do_all, w_do_any, w_do_then, w_do_without, w_do_within, w_do_done, w_do_failed, w_all_do, w_all_all, w_all_any, w_all_then, w_all_without, w_all_within, w_all_done, w_all_failed, w_any_do, w_any_all, w_any_any, w_any_then, w_any_without, w_any_within, w_any_done, w_any_failed, w_then_do, w_then_all, w_then_any, w_then_then, w_then_without, w_then_within, w_then_done, w_then_failed, w_without_do, w_without_all, w_without_any, w_without_then, w_without_without, w_without_within, w_without_done, w_without_failed, w_within_do, w_within_all, w_within_any, w_within_then, w_within_without, w_within_within, w_within_done, w_within_failed, w_done_do, w_done_all, w_done_any, w_done_then, w_done_without, w_done_within, w_done_done, w_done_failed, w_failed_do, w_failed_all, w_failed_any, w_failed_then, w_failed_without, w_failed_within, w_failed_done, w_failed_failed, Bool.or_false, Bool.or_true, Bool.or_self, step, q']
    | wout d t =>
      have q := ih1 t h.2
      simp only [runB, fSeq, fIf, fRet, fAsg, fB, f1, f2, fA, fA0, fL, fV, fC, fTup, fLst, fNext, on1, on2, gN, gT, gsC, gs0, asB, fAnd, fOr, fBnd, fBor, fNot, fVB, fIte, fAndV, fOrV, notD, negD, fO, fO0, asI, fSl, fPar, List.map_cons, List.map_nil, List.length_cons, List.length_nil, List.reduceReplicate, List.cons_append, List.nil_append, List.append_nil, List.getElem?_cons_zero, List.getElem?_cons_succ, Option.join_some, Option.join_none, List.set_cons_zero, List.set_cons_succ, Option.bind_some, Option.bind_none, Option.map_some, Option.map_none, Nat.reduceSub, Nat.reduceAdd, Nat.reduceEqDiff, if_true, if_false, Bool.false_eq_true, reduceIte, Nat.zero_add, fComp, fItems, itemsOf, extOf, wipeE, fEnum, fRng1, fRng2, fSigns, lenD, tupD, lstD, ix0, ix1, ix2, eq_s, ne_s, eq_i, ne_i, add_i, sub_i, in_t2, in_t3, List.length_map, enc, w_do_do, w_do_all, w_do_any, w_do_then, w_do_without, w_do_within, w_do_done, w_do_failed, w_all_do, w_all_all, w_all_any, w_all_then, w_all_without, w_all_within, w_all_done, w_all_failed, w_any_do, w_any_all, w_any_any, w_any_then, w_any_without, w_any_within, w_any_done, w_any_failed, w_then_do, w_then_all, w_then_any, w_then_then, w_then_without, w_then_within, w_then_done, w_then_failed, w_without_do, w_without_all, w_without_any, w_without_then, w_without_without, w_without_within, w_without_done, w_without_failed, w_within_do, w_within_all, w_within_any, w_within_then, w_within_without, w_within_within, w_within_done, w_within_failed, w_done_do, w_done_all, w_done_any, w_done_then, w_done_without, w_done_within, w_done_done, w_done_failed, w_failed_do, w_failed_all, w_failed_any, w_failed_then, w_failed_without, w_failed_within, w_failed_done, w_failed_failed, Bool.or_false, Bool.or_self, step, q]
      by_cases hx : x = d
      · simp only [beq_str hx, if_pos hx, runB, fSeq, fIf, fRet, fAsg, fB, f1, f2, fA, fA0, fL, fV, fC, fTup, fLst, fNext, on1, on2, gN, gT, gsC, gs0, asB, fAnd, fOr, fBnd, fBor, fNot, fVB, fIte, fAndV, fOrV, notD, negD, fO, fO0, asI, fSl, fPar, List.map_cons, List.map_nil, List.length_cons, List.length_nil, List.reduceReplicate, List.cons_append, List.nil_append, List.append_nil, List.getElem?_cons_zero, List.getElem?_cons_succ, Option.join_some, Option.join_none, List.set_cons_zero, List.set_cons_succ, Option.bind_some, Option.bind_none, Option.map_some, Option.map_none, Nat.reduceSub, Nat.reduceAdd, Nat.reduceEqDiff, if_true, if_false, Bool.false_eq_true, reduceIte, Nat.zero_add, fComp, fItems, itemsOf, extOf, wipeE, fEnum, fRng1, fRng2, fSigns, lenD, tupD, lstD, ix0, ix1, ix2, eq_s, ne_s, eq_i, ne_i, add_i, sub_i, in_t2, in_t3, List.length_map, encR]
      · simp only [bne_str hx, if_neg hx, runB, fSeq, fIf, fRet, fAsg, fB, f1, f2, fA, fA0, fL, fV, fC, fTup, fLst, fNext, on1, on2, gN, gT, gsC, gs0, asB, fAnd, fOr, fBnd, fBor, fNot, fVB, fIte, fAndV, fOrV, notD, negD, fO, fO0, asI, fSl, fPar, List.map_cons, List.map_nil, List.length_cons, List.length_nil, List.reduceReplicate, List.cons_append, List.nil_append, List.append_nil, List.getElem?_cons_zero, List.getElem?_cons_succ, Option.join_some, Option.join_none, List.set_cons_zero, List.set_cons_succ, Option.bind_some, Option.bind_none, Option.map_some, Option.map_none, Nat.reduceSub, Nat.reduceAdd, Nat.reduceEqDiff, if_true, if_false, Bool.false_eq_true, reduceIte, Nat.zero_add, fComp, fItems, itemsOf, extOf, wipeE, fEnum, fRng1, fRng2, fSigns, lenD, tupD, lstD, ix0, ix1, ix2, eq_s, ne_s, eq_i, ne_i, add_i, sub_i, in_t2, in_t3, List.length_map, q, F_over, over_R]
        cases e : step x t with
        | done => simp only [runB, fSeq, fIf, fRet, fAsg, fB, f1, f2, fA, fA0, fL, fV, fC, fTup, fLst, fNext, on1, on2, gN, gT, gsC, gs0, asB, fAnd, fOr, fBnd, fBor, fNot, fVB, fIte, fAndV, fOrV, notD, negD, fO, fO0, asI, fSl, fPar, List.map_cons, List.map_nil, List.length_cons, List.length_nil, List.reduceReplicate, List.cons_append, List.nil_append, List.append_nil, List.getElem?_cons_zero, List.getElem?_cons_succ, Option.join_some, Option.join_none, List.set_cons_zero, List.set_cons_succ, Option.bind_some, Option.bind_none, Option.map_some, Option.map_none, Nat.reduceSub, Nat.reduceAdd, Nat.reduceEqDiff, if_true, if_false, Bool.false_eq_true, reduceIte, Nat.zero_add, fComp, fItems, itemsOf, extOf, wipeE, fEnum, fRng1, fRng2, fSigns, lenD, tupD, lstD, ix0, ix1, ix2, eq_s, ne_s, eq_i, ne_i, add_i, sub_i, in_t2, in_t3, List.length_map, encR]
        | failed => simp only [runB, fSeq, fIf, fRet, fAsg, fB, f1, f2, fA, fA0, fL, fV, fC, fTup, fLst, fNext, on1, on2, gN, gT, gsC, gs0, asB, fAnd, fOr, fBnd, fBor, fNot, fVB, fIte, fAndV, fOrV, notD, negD, fO, fO0, asI, fSl, fPar, List.map_cons, List.map_nil, List.length_cons, List.length_nil, List.reduceReplicate, List.cons_append, List.nil_append, List.append_nil, List.getElem?_cons_zero, List.getElem?_cons_succ, Option.join_some, Option.join_none, List.set_cons_zero, List.set_cons_succ, Option.bind_some, Option.bind_none, Option.map_some, Option.map_none, Nat.reduceSub, Nat.reduceAdd, Nat.reduceEqDiff, if_true, if_false, Bool.false_eq_true, reduceIte, Nat.zero_add, fComp, fItems, itemsOf, extOf, wipeE, fEnum, fRng1, fRng2, fSigns, lenD, tupD, lstD, ix0, ix1, ix2, eq_s, ne_s, eq_i, ne_i, add_i, sub_i, in_t2, in_t3, List.length_map, encR]
        | left u => simp only [runB, fSeq, fIf, fRet, fAsg, fB, f1, f2, fA, fA0, fL, fV, fC, fTup, fLst, fNext, on1, on2, gN, gT, gsC, gs0, asB, fAnd, fOr, fBnd, fBor, fNot, fVB, fIte, fAndV, fOrV, notD, negD, fO, fO0, asI, fSl, fPar, List.map_cons, List.map_nil, List.length_cons, List.length_nil, List.reduceReplicate, List.cons_append, List.nil_append, List.append_nil, List.getElem?_cons_zero, List.getElem?_cons_succ, Option.join_some, Option.join_none, List.set_cons_zero, List.set_cons_succ, Option.bind_some, Option.bind_none, Option.map_some, Option.map_none, Nat.reduceSub, Nat.reduceAdd, Nat.reduceEqDiff, if_true, if_false, Bool.false_eq_true, reduceIte, Nat.zero_add, fComp, fItems, itemsOf, extOf, wipeE, fEnum, fRng1, fRng2, fSigns, lenD, tupD, lstD, ix0, ix1, ix2, eq_s, ne_s, eq_i, ne_i, add_i, sub_i, in_t2, in_t3, List.length_map, w_do_do, w_do_all, w_do_any, w_do_then, w_do_without, w_do_within, w_do_done, w_do_failed, w_all_do, w_all_all, w_all_any, w_all_then, w_all_without, w_all_within, w_all_done, w_all_failed, w_any_do, w_any_all, w_any_any, w_any_then, w_any_without, w_any_within, w_any_done, w_any_failed, w_then_do, w_then_all, w_then_any, w_then_then, w_then_without, w_then_within, w_then_done, w_then_failed, w_without_do, w_without_all, w_without_any, w_without_then, w_without_without, w_without_within, w_without_done, w_without_failed, w_within_do, w_within_all, w_within_any, w_within_then, w_within_without, w_within_within, w_within_done, w_within_failed, w_done_do, w_done_all, w_done_any, w_done_then, w_done_without, w_done_within, w_done_done, w_done_failed, w_failed_do, w_failed_all, w_failed_any, w_failed_then, w_failed_without, w_failed_within, w_failed_done, w_failed_failed, encR, enc]
    | wthn m t =>
      have q := ih1 t h.2
      simp only [runB, fSeq, fIf, fRet, fAsg, fB, f1, f2, fA, fA0, fL, fV, fC, fTup, fLst, fNext, on1, on2, gN, gT, gsC, gs0, asB, fAnd, fOr, fBnd, fBor, fNot, fVB, fIte, fAndV, fOrV, notD, negD, fO, fO0, asI, fSl, fPar, List.map_cons, List.map_nil, List.length_cons, List.length_nil, List.reduceReplicate, List.cons_append, List.nil_append, List.append_nil, List.getElem?_cons_zero, List.getElem?_cons_succ, Option.join_some, Option.join_none, List.set_cons_zero, List.set_cons_succ, Option.bind_some, Option.bind_none, Option.map_some, Option.map_none, Nat.reduceSub, Nat.reduceAdd, Nat.reduceEqDiff, if_true, if_false, Bool.false_eq_true, reduceIte, Nat.zero_add, fComp, fItems, itemsOf, extOf, wipeE, fEnum, fRng1, fRng2, fSigns, lenD, tupD, lstD, ix0, ix1, ix2, eq_s, ne_s, eq_i, ne_i, add_i, sub_i, in_t2, in_t3, List.length_map, enc, w_do_do, w_do_all, w_do_any, w_do_then, w_do_without, w_do_within, w_do_done, w_do_failed, w_all_do, w_all_all, w_all_any, w_all_then, w_all_without, w_all_within, w_all_done, w_all_failed, w_any_do, w_any_all, w_any_any, w_any_then, w_any_without, w_any_within, w_any_done, w_any_failed, w_then_do, w_then_all, w_then_any, w_then_then, w_then_without, w_then_within, w_then_done, w_then_failed, w_without_do, w_without_all, w_without_any, w_without_then, w_without_without, w_without_within, w_without_done, w_without_failed, w_within_do, w_within_all, w_within_any, w_within_then, w_within_without, w_within_within, w_within_done, w_within_failed, w_done_do, w_done_all, w_done_any, w_done_then, w_done_without, w_done_within, w_done_done, w_done_failed, w_failed_do, w_failed_all, w_failed_any, w_failed_then, w_failed_without, w_failed_within, w_failed_done, w_failed_failed, Bool.or_false, Bool.or_self, step, q, F_over, over_R]
      cases e : step x t with
      | done => simp only [runB, fSeq, fIf, fRet, fAsg, fB, f1, f2, fA, fA0, fL, fV, fC, fTup, fLst, fNext, on1, on2, gN, gT, gsC, gs0, asB, fAnd, fOr, fBnd, fBor, fNot, fVB, fIte, fAndV, fOrV, notD, negD, fO, fO0, asI, fSl, fPar, List.map_cons, List.map_nil, List.length_cons, List.length_nil, List.reduceReplicate, List.cons_append, List.nil_append, List.append_nil, List.getElem?_cons_zero, List.getElem?_cons_succ, Option.join_some, Option.join_none, List.set_cons_zero, List.set_cons_succ, Option.bind_some, Option.bind_none, Option.map_some, Option.map_none, Nat.reduceSub, Nat.reduceAdd, Nat.reduceEqDiff, if_true, if_false, Bool.false_eq_true, reduceIte, Nat.zero_add, fComp, fItems, itemsOf, extOf, wipeE, fEnum, fRng1, fRng2, fSigns, lenD, tupD, lstD, ix0, ix1, ix2, eq_s, ne_s, eq_i, ne_i, add_i, sub_i, in_t2, in_t3, List.length_map, encR]
      | failed => simp only [runB, fSeq, fIf, fRet, fAsg, fB, f1, f2, fA, fA0, fL, fV, fC, fTup, fLst, fNext, on1, on2, gN, gT, gsC, gs0, asB, fAnd, fOr, fBnd, fBor, fNot, fVB, fIte, fAndV, fOrV, notD, negD, fO, fO0, asI, fSl, fPar, List.map_cons, List.map_nil, List.length_cons, List.length_nil, List.reduceReplicate, List.cons_append, List.nil_append, List.append_nil, List.getElem?_cons_zero, List.getElem?_cons_succ, Option.join_some, Option.join_none, List.set_cons_zero, List.set_cons_succ, Option.bind_some, Option.bind_none, Option.map_some, Option.map_none, Nat.reduceSub, Nat.reduceAdd, Nat.reduceEqDiff, if_true, if_false, Bool.false_eq_true, reduceIte, Nat.zero_add, fComp, fItems, itemsOf, extOf, wipeE, fEnum, fRng1, fRng2, fSigns, lenD, tupD, lstD, ix0, ix1, ix2, eq_s, ne_s, eq_i, ne_i, add_i, sub_i, in_t2, in_t3, List.length_map, encR]
      | left u =>
        simp only [runB, fSeq, fIf, fRet, fAsg, fB, f1, f2, fA, fA0, fL, fV, fC, fTup, fLst, fNext, on1, on2, gN, gT, gsC, gs0, asB, fAnd, fOr, fBnd, fBor, fNot, fVB, fIte, fAndV, fOrV, notD, negD, fO, fO0, asI, fSl, fPar, List.map_cons, List.map_nil, List.length_cons, List.length_nil, List.reduceReplicate, List.cons_append, List.nil_append, List.append_nil, List.getElem?_cons_zero, List.getElem?_cons_succ, Option.join_some, Option.join_none, List.set_cons_zero, List.set_cons_succ, Option.bind_some, Option.bind_none, Option.map_some, Option.map_none, Nat.reduceSub, Nat.reduceAdd, Nat.reduceEqDiff, if_true, if_false, Bool.false_eq_true, reduceIte, Nat.zero_add, fComp, fItems, itemsOf, extOf, wipeE, fEnum, fRng1, fRng2, fSigns, lenD, tupD, lstD, ix0, ix1, ix2, eq_s, ne_s, eq_i, ne_i, add_i, sub_i, in_t2, in_t3, List.length_map, encR, w_do_do, w_do_all, w_do_any, w_do_then, w_do_without, w_do_within, w_do_done, w_do_failed, w_all_do, w_all_all, w_all_any, w_all_then, w_all_without, w_all_within, w_all_done, w_all_failed, w_any_do, w_any_all, w_any_any, w_any_then, w_any_without, w_any_within, w_any_done, w_any_failed, w_then_do, w_then_all, w_then_any, w_then_then, w_then_without, w_then_within, w_then_done, w_then_failed, w_without_do, w_without_all, w_without_any, w_without_then, w_without_without, w_without_within, w_without_done, w_without_failed, w_within_do, w_within_all, w_within_any, w_within_then, w_within_without, w_within_within, w_within_done, w_within_failed, w_done_do, w_done_all, w_done_any, w_done_then, w_done_without, w_done_within, w_done_done, w_done_failed, w_failed_do, w_failed_all, w_failed_any, w_failed_then, w_failed_without, w_failed_within, w_failed_done, w_failed_failed]
        by_cases hm : m = 1
        · simp only [beq_int hm, if_pos hm, runB, fSeq, fIf, fRet, fAsg, fB, f1, f2, fA, fA0, fL, fV, fC, fTup, fLst, fNext, on1, on2, gN, gT, gsC, gs0, asB, fAnd, fOr, fBnd, fBor, fNot, fVB, fIte, fAndV, fOrV, notD, negD, fO, fO0, asI, fSl, fPar, List.map_cons, List.map_nil, List.length_cons, List.length_nil, List.reduceReplicate, List.cons_append, List.nil_append, List.append_nil, List.getElem?_cons_zero, List.getElem?_cons_succ, Option.join_some, Option.join_none, List.set_cons_zero, List.set_cons_succ, Option.bind_some, Option.bind_none, Option.map_some, Option.map_none, Nat.reduceSub, Nat.reduceAdd, Nat.reduceEqDiff, if_true, if_false, Bool.false_eq_true, reduceIte, Nat.zero_add, fComp, fItems, itemsOf, extOf, wipeE, fEnum, fRng1, fRng2, fSigns, lenD, tupD, lstD, ix0, ix1, ix2, eq_s, ne_s, eq_i, ne_i, add_i, sub_i, in_t2, in_t3, List.length_map, encR]
        · simp only [bne_int hm, if_neg hm, runB, fSeq, fIf, fRet, fAsg, fB, f1, f2, fA, fA0, fL, fV, fC, fTup, fLst, fNext, on1, on2, gN, gT, gsC, gs0, asB, fAnd, fOr, fBnd, fBor, fNot, fVB, fIte, fAndV, fOrV, notD, negD, fO, fO0, asI, fSl, fPar, List.map_cons, List.map_nil, List.length_cons, List.length_nil, List.reduceReplicate, List.cons_append, List.nil_append, List.append_nil, List.getElem?_cons_zero, List.getElem?_cons_succ, Option.join_some, Option.join_none, List.set_cons_zero, List.set_cons_succ, Option.bind_some, Option.bind_none, Option.map_some, Option.map_none, Nat.reduceSub, Nat.reduceAdd, Nat.reduceEqDiff, if_true, if_false, Bool.false_eq_true, reduceIte, Nat.zero_add, fComp, fItems, itemsOf, extOf, wipeE, fEnum, fRng1, fRng2, fSigns, lenD, tupD, lstD, ix0, ix1, ix2, eq_s, ne_s, eq_i, ne_i, add_i, sub_i, in_t2, in_t3, List.length_map, encR, enc]
theorem F_beh {k : Nat} {t : Task} {x : Str} (hk : k ≤ 12) (h : okT k t) : F_behind [enc t, .str x] = some (encR (step x t)) := G_behind k 24 t x (by omega) h (by omega)
end Tk

namespace Tk
open PySem L2 Tl
/-! ### told -/
def tell (n : Nat) (t : Task) : List Str → Res × Option Int
  | [] => (.left t, none)
  | x :: xs => match step x t with
    | .left t' => tell (n + 1) t' xs
    | .done => (.done, some ((n : Int) + 1))
    | .failed => (.failed, some ((n : Int) + 1))
def encO : Option Int → PyData
  | none => .none
  | some i => .int i
def encP (p : Res × Option Int) : PyData := .tuple [encR p.1, encO p.2]
def sts (xs : List Str) : List PyData := xs.map .str
/-- what the loop of told comes to -/
def toldEnd (D : Option PyData) (p : Res × Option Int) (o : Out) : Prop := match p with
  | (.left t, none) => ∃ a b, o = .nx [some (enc t), D, a, b]
  | _ => o = .rt (encP p)
theorem told_loop {k : Nat} (hk : k ≤ 12) (D : Option PyData) : ∀ (xs : List Str) (n : Nat) (t : Task) (a b : Option PyData), okT k t →
    toldEnd D (tell n t xs) (loopF (gT (gsC (gN 2) (gsC (gN 3) gs0)) 2) (fSeq (fAsg (fL F_behind (fA (fV 0) (fA (fV 3) fA0))) (gN 0))
      (fIf (fB (fL F_is_over (fA (fV 0) fA0))) (fRet (fTup (fA (fV 0) (fA (f2 addD (fV 2) (fC (.int 1))) fA0)))) fNext)) (enumL n (sts xs)) [some (enc t), D, a, b])
  | [], n, t, a, b, h => ⟨a, b, rfl⟩
  | x :: xs, n, t, a, b, h => by
    have hb := F_beh (x := x) hk h
    have ho := step_ok k t x h
    simp only [sts, List.map_cons, enumL, loopF, runB, fSeq, fIf, fRet, fAsg, fB, f1, f2, fA, fA0, fL, fV, fC, fTup, fLst, fNext, on1, on2, gN, gT, gsC, gs0, asB, fAnd, fOr, fBnd, fBor, fNot, fVB, fIte, fAndV, fOrV, notD, negD, fO, fO0, asI, fSl, fPar, List.map_cons, List.map_nil, List.length_cons, List.length_nil, List.reduceReplicate, List.cons_append, List.nil_append, List.append_nil, List.getElem?_cons_zero, List.getElem?_cons_succ, Option.join_some, Option.join_none, List.set_cons_zero, List.set_cons_succ, Option.bind_some, Option.bind_none, Option.map_some, Option.map_none, Nat.reduceSub, Nat.reduceAdd, Nat.reduceEqDiff, if_true, if_false, Bool.false_eq_true, reduceIte, Nat.zero_add, fComp, fItems, itemsOf, extOf, wipeE, fEnum, fRng1, fRng2, fSigns, lenD, tupD, lstD, ix0, ix1, ix2, eq_s, ne_s, eq_i, ne_i, add_i, sub_i, in_t2, in_t3, List.length_map, hb, F_over, over_R, tell]
    cases e : step x t with
    | done => simp only [runB, fSeq, fIf, fRet, fAsg, fB, f1, f2, fA, fA0, fL, fV, fC, fTup, fLst, fNext, on1, on2, gN, gT, gsC, gs0, asB, fAnd, fOr, fBnd, fBor, fNot, fVB, fIte, fAndV, fOrV, notD, negD, fO, fO0, asI, fSl, fPar, List.map_cons, List.map_nil, List.length_cons, List.length_nil, List.reduceReplicate, List.cons_append, List.nil_append, List.append_nil, List.getElem?_cons_zero, List.getElem?_cons_succ, Option.join_some, Option.join_none, List.set_cons_zero, List.set_cons_succ, Option.bind_some, Option.bind_none, Option.map_some, Option.map_none, Nat.reduceSub, Nat.reduceAdd, Nat.reduceEqDiff, if_true, if_false, Bool.false_eq_true, reduceIte, Nat.zero_add, fComp, fItems, itemsOf, extOf, wipeE, fEnum, fRng1, fRng2, fSigns, lenD, tupD, lstD, ix0, ix1, ix2, eq_s, ne_s, eq_i, ne_i, add_i, sub_i, in_t2, in_t3, List.length_map, toldEnd, encP, encO]
    | failed => simp only [runB, fSeq, fIf, fRet, fAsg, fB, f1, f2, fA, fA0, fL, fV, fC, fTup, fLst, fNext, on1, on2, gN, gT, gsC, gs0, asB, fAnd, fOr, fBnd, fBor, fNot, fVB, fIte, fAndV, fOrV, notD, negD, fO, fO0, asI, fSl, fPar, List.map_cons, List.map_nil, List.length_cons, List.length_nil, List.reduceReplicate, List.cons_append, List.nil_append, List.append_nil, List.getElem?_cons_zero, List.getElem?_cons_succ, Option.join_some, Option.join_none, List.set_cons_zero, List.set_cons_succ, Option.bind_some, Option.bind_none, Option.map_some, Option.map_none, Nat.reduceSub, Nat.reduceAdd, Nat.reduceEqDiff, if_true, if_false, Bool.false_eq_true, reduceIte, Nat.zero_add, fComp, fItems, itemsOf, extOf, wipeE, fEnum, fRng1, fRng2, fSigns, lenD, tupD, lstD, ix0, ix1, ix2, eq_s, ne_s, eq_i, ne_i, add_i, sub_i, in_t2, in_t3, List.length_map, toldEnd, encP, encO]
    | left u =>
      rw [e] at ho
      simp only [runB, fSeq, fIf, fRet, fAsg, fB, f1, f2, fA, fA0, fL, fV, fC, fTup, fLst, fNext, on1, on2, gN, gT, gsC, gs0, asB, fAnd, fOr, fBnd, fBor, fNot, fVB, fIte, fAndV, fOrV, notD, negD, fO, fO0, asI, fSl, fPar, List.map_cons, List.map_nil, List.length_cons, List.length_nil, List.reduceReplicate, List.cons_append, List.nil_append, List.append_nil, List.getElem?_cons_zero, List.getElem?_cons_succ, Option.join_some, Option.join_none, List.set_cons_zero, List.set_cons_succ, Option.bind_some, Option.bind_none, Option.map_some, Option.map_none, Nat.reduceSub, Nat.reduceAdd, Nat.reduceEqDiff, if_true, if_false, Bool.false_eq_true, reduceIte, Nat.zero_add, fComp, fItems, itemsOf, extOf, wipeE, fEnum, fRng1, fRng2, fSigns, lenD, tupD, lstD, ix0, ix1, ix2, eq_s, ne_s, eq_i, ne_i, add_i, sub_i, in_t2, in_t3, List.length_map, encR]
      exact told_loop hk D xs (n + 1) u _ _ ho
theorem F_tell {k : Nat} {t : Task} (hk : k ≤ 12) (h : okT k t) (xs : List Str) : F_told [enc t, .tuple (sts xs)] = some (encP (tell 0 t xs)) := by
  have q := told_loop hk (some (.tuple (sts xs))) xs 0 t none none h
  unfold F_told B_told
  simp only [runB, fSeq, fIf, fRet, fAsg, fB, f1, f2, fA, fA0, fL, fV, fC, fTup, fLst, fNext, on1, on2, gN, gT, gsC, gs0, asB, fAnd, fOr, fBnd, fBor, fNot, fVB, fIte, fAndV, fOrV, notD, negD, fO, fO0, asI, fSl, fPar, List.map_cons, List.map_nil, List.length_cons, List.length_nil, List.reduceReplicate, List.cons_append, List.nil_append, List.append_nil, List.getElem?_cons_zero, List.getElem?_cons_succ, Option.join_some, Option.join_none, List.set_cons_zero, List.set_cons_succ, Option.bind_some, Option.bind_none, Option.map_some, Option.map_none, Nat.reduceSub, Nat.reduceAdd, Nat.reduceEqDiff, if_true, if_false, Bool.false_eq_true, reduceIte, Nat.zero_add, fComp, fItems, itemsOf, extOf, wipeE, fEnum, fRng1, fRng2, fSigns, lenD, tupD, lstD, ix0, ix1, ix2, eq_s, ne_s, eq_i, ne_i, add_i, sub_i, in_t2, in_t3, List.length_map, fFor]
  cases e : tell 0 t xs with
  | mk r o =>
    rw [e] at q
    cases r with
    | left u =>
      cases o with
      | none =>
        obtain ⟨a, b, q⟩ := q
        rw [q]
        simp only [runB, fSeq, fIf, fRet, fAsg, fB, f1, f2, fA, fA0, fL, fV, fC, fTup, fLst, fNext, on1, on2, gN, gT, gsC, gs0, asB, fAnd, fOr, fBnd, fBor, fNot, fVB, fIte, fAndV, fOrV, notD, negD, fO, fO0, asI, fSl, fPar, List.map_cons, List.map_nil, List.length_cons, List.length_nil, List.reduceReplicate, List.cons_append, List.nil_append, List.append_nil, List.getElem?_cons_zero, List.getElem?_cons_succ, Option.join_some, Option.join_none, List.set_cons_zero, List.set_cons_succ, Option.bind_some, Option.bind_none, Option.map_some, Option.map_none, Nat.reduceSub, Nat.reduceAdd, Nat.reduceEqDiff, if_true, if_false, Bool.false_eq_true, reduceIte, Nat.zero_add, fComp, fItems, itemsOf, extOf, wipeE, fEnum, fRng1, fRng2, fSigns, lenD, tupD, lstD, ix0, ix1, ix2, eq_s, ne_s, eq_i, ne_i, add_i, sub_i, in_t2, in_t3, List.length_map, encP, encR, encO]
      | some i =>
        have q' : _ = Out.rt _ := q
        rw [q']
    | done =>
      have q' : _ = Out.rt _ := q
      rw [q']
    | failed =>
      have q' : _ = Out.rt _ := q
      rw [q']
/-! ### the law's own step -/
theorem F_lgroup (w : PyData) (ds : List PyData) (h : ds ≠ []) : F__law_group [w, .list ds] = some (gD w ds) := by
  unfold F__law_group B__law_group gD
  match ds, h with
  | [d], _ => simp only [runB, fSeq, fIf, fRet, fAsg, fB, f1, f2, fA, fA0, fL, fV, fC, fTup, fLst, fNext, on1, on2, gN, gT, gsC, gs0, asB, fAnd, fOr, fBnd, fBor, fNot, fVB, fIte, fAndV, fOrV, notD, negD, fO, fO0, asI, fSl, fPar, List.map_cons, List.map_nil, List.length_cons, List.length_nil, List.reduceReplicate, List.cons_append, List.nil_append, List.append_nil, List.getElem?_cons_zero, List.getElem?_cons_succ, Option.join_some, Option.join_none, List.set_cons_zero, List.set_cons_succ, Option.bind_some, Option.bind_none, Option.map_some, Option.map_none, Nat.reduceSub, Nat.reduceAdd, Nat.reduceEqDiff, if_true, if_false, Bool.false_eq_true, reduceIte, Nat.zero_add, lenD, eq_i, List.length_cons, List.length_nil]; rfl
  | d :: e :: r, _ =>
    have hl : (((r.length + 1 + 1 : Nat) : Int) == 1) = false := by
      rw [beq_eq_false_iff_ne]
      omega
    simp only [runB, fSeq, fIf, fRet, fAsg, fB, f1, f2, fA, fA0, fL, fV, fC, fTup, fLst, fNext, on1, on2, gN, gT, gsC, gs0, asB, fAnd, fOr, fBnd, fBor, fNot, fVB, fIte, fAndV, fOrV, notD, negD, fO, fO0, asI, fSl, fPar, List.map_cons, List.map_nil, List.length_cons, List.length_nil, List.reduceReplicate, List.cons_append, List.nil_append, List.append_nil, List.getElem?_cons_zero, List.getElem?_cons_succ, Option.join_some, Option.join_none, List.set_cons_zero, List.set_cons_succ, Option.bind_some, Option.bind_none, Option.map_some, Option.map_none, Nat.reduceSub, Nat.reduceAdd, Nat.reduceEqDiff, if_true, if_false, Bool.false_eq_true, reduceIte, Nat.zero_add, lenD, eq_i, hl, tupD]
theorem F_lgroupT (w : Gw) (ts : List Task) (h : ts ≠ []) : F__law_group [.str w.str, .list (ts.map enc)] = some (enc (mkG w ts)) := by
  rw [F_lgroup _ _ (by simpa using h), enc_mkG w ts h]
theorem F_kept (hd : List PyData) (r : Res) (hl : hd.length ≤ 10) : F__law_kept [.tuple hd, encR r] = some (match r with | .left t => .tuple (hd ++ [enc t]) | r => encR r) := by
  unfold F__law_kept B__law_kept
  simp only [runB, fSeq, fIf, fRet, fAsg, fB, f1, f2, fA, fA0, fL, fV, fC, fTup, fLst, fNext, on1, on2, gN, gT, gsC, gs0, asB, fAnd, fOr, fBnd, fBor, fNot, fVB, fIte, fAndV, fOrV, notD, negD, fO, fO0, asI, fSl, fPar, List.map_cons, List.map_nil, List.length_cons, List.length_nil, List.reduceReplicate, List.cons_append, List.nil_append, List.append_nil, List.getElem?_cons_zero, List.getElem?_cons_succ, Option.join_some, Option.join_none, List.set_cons_zero, List.set_cons_succ, Option.bind_some, Option.bind_none, Option.map_some, Option.map_none, Nat.reduceSub, Nat.reduceAdd, Nat.reduceEqDiff, if_true, if_false, Bool.false_eq_true, reduceIte, Nat.zero_add, fComp, fItems, itemsOf, extOf, wipeE, fEnum, fRng1, fRng2, fSigns, lenD, tupD, lstD, ix0, ix1, ix2, eq_s, ne_s, eq_i, ne_i, add_i, sub_i, in_t2, in_t3, List.length_map, over_R]
  cases r with
  | done => simp only [runB, fSeq, fIf, fRet, fAsg, fB, f1, f2, fA, fA0, fL, fV, fC, fTup, fLst, fNext, on1, on2, gN, gT, gsC, gs0, asB, fAnd, fOr, fBnd, fBor, fNot, fVB, fIte, fAndV, fOrV, notD, negD, fO, fO0, asI, fSl, fPar, List.map_cons, List.map_nil, List.length_cons, List.length_nil, List.reduceReplicate, List.cons_append, List.nil_append, List.append_nil, List.getElem?_cons_zero, List.getElem?_cons_succ, Option.join_some, Option.join_none, List.set_cons_zero, List.set_cons_succ, Option.bind_some, Option.bind_none, Option.map_some, Option.map_none, Nat.reduceSub, Nat.reduceAdd, Nat.reduceEqDiff, if_true, if_false, Bool.false_eq_true, reduceIte, Nat.zero_add, fComp, fItems, itemsOf, extOf, wipeE, fEnum, fRng1, fRng2, fSigns, lenD, tupD, lstD, ix0, ix1, ix2, eq_s, ne_s, eq_i, ne_i, add_i, sub_i, in_t2, in_t3, List.length_map]
  | failed => simp only [runB, fSeq, fIf, fRet, fAsg, fB, f1, f2, fA, fA0, fL, fV, fC, fTup, fLst, fNext, on1, on2, gN, gT, gsC, gs0, asB, fAnd, fOr, fBnd, fBor, fNot, fVB, fIte, fAndV, fOrV, notD, negD, fO, fO0, asI, fSl, fPar, List.map_cons, List.map_nil, List.length_cons, List.length_nil, List.reduceReplicate, List.cons_append, List.nil_append, List.append_nil, List.getElem?_cons_zero, List.getElem?_cons_succ, Option.join_some, Option.join_none, List.set_cons_zero, List.set_cons_succ, Option.bind_some, Option.bind_none, Option.map_some, Option.map_none, Nat.reduceSub, Nat.reduceAdd, Nat.reduceEqDiff, if_true, if_false, Bool.false_eq_true, reduceIte, Nat.zero_add, fComp, fItems, itemsOf, extOf, wipeE, fEnum, fRng1, fRng2, fSigns, lenD, tupD, lstD, ix0, ix1, ix2, eq_s, ne_s, eq_i, ne_i, add_i, sub_i, in_t2, in_t3, List.length_map]
  | left t =>
    have hz : hd.length + (0 + 1) ≤ sizeLine := Nat.le_trans (by omega : hd.length + (0 + 1) ≤ 11) (by decide)
    simp only [runB, fSeq, fIf, fRet, fAsg, fB, f1, f2, fA, fA0, fL, fV, fC, fTup, fLst, fNext, on1, on2, gN, gT, gsC, gs0, asB, fAnd, fOr, fBnd, fBor, fNot, fVB, fIte, fAndV, fOrV, notD, negD, fO, fO0, asI, fSl, fPar, List.map_cons, List.map_nil, List.length_cons, List.length_nil, List.reduceReplicate, List.cons_append, List.nil_append, List.append_nil, List.getElem?_cons_zero, List.getElem?_cons_succ, Option.join_some, Option.join_none, List.set_cons_zero, List.set_cons_succ, Option.bind_some, Option.bind_none, Option.map_some, Option.map_none, Nat.reduceSub, Nat.reduceAdd, Nat.reduceEqDiff, if_true, if_false, Bool.false_eq_true, reduceIte, Nat.zero_add, fComp, fItems, itemsOf, extOf, wipeE, fEnum, fRng1, fRng2, fSigns, lenD, tupD, lstD, ix0, ix1, ix2, eq_s, ne_s, eq_i, ne_i, add_i, sub_i, in_t2, in_t3, List.length_map, addD, List.length_singleton, if_pos hz, encR]
theorem cutT2 (a b c : PyData) : cutL [a, b, c] none (some 2) = [a, b] := rfl
theorem lst0 (a b : PyData) : ixD (.list [a, b]) (.int 0) = some a := rfl
theorem lst1 (a b : PyData) : ixD (.list [a, b]) (.int 1) = some b := rfl
theorem eq_nil {n : Nat} {ts : List Task} (hn : n ≤ 30) (h : ∀ t ∈ ts, okT n t) : eqP (.list (ts.map enc)) (.list []) = some (.bool ts.isEmpty) := by
  have hs : SeqAt.shaped (.list (ts.map enc)) = true := by
    have := list_shaped (rs := ts.map Res.left) hn fun r hr => by
      obtain ⟨t, ht, rfl⟩ := List.mem_map.mp hr
      exact h t ht
    rw [List.map_map] at this
    exact this
  rw [eqP_of hs (by decide +kernel)]
  cases ts <;> simp [PyData.eqv, PyData.eqvAll]
theorem G_lbehind : ∀ (k n : Nat) (t : Task) (x : Str), k ≤ 30 → okT k t → k ≤ n → G__law_behind n 0 [enc t, .str x] = some (encR (step x t))
  | 0, _, _, _, _, h, _ => h.elim
  | k + 1, 0, _, _, _, _, hn => by omega
  | k + 1, n + 1, t, x, hk, h, hn => by
    have ih : ∀ t, okT k t → G__law_behind n 0 [enc t, .str x] = some (encR (step x t)) := fun t ht => G_lbehind k n t x (by omega) ht (by omega)
    show runB 2 11 (B__law_behind (G__law_behind n)) [enc t, .str x] = _
    unfold B__law_behind
    cases t with
    | one d m =>
      simp only [runB, fSeq, fIf, fRet, fAsg, fB, f1, f2, fA, fA0, fL, fV, fC, fTup, fLst, fNext, on1, on2, gN, gT, gsC, gs0, asB, fAnd, fOr, fBnd, fBor, fNot, fVB, fIte, fAndV, fOrV, notD, negD, fO, fO0, asI, fSl, fPar, List.map_cons, List.map_nil, List.length_cons, List.length_nil, List.reduceReplicate, List.cons_append, List.nil_append, List.append_nil, List.getElem?_cons_zero, List.getElem?_cons_succ, Option.join_some, Option.join_none, List.set_cons_zero, List.set_cons_succ, Option.bind_some, Option.bind_none, Option.map_some, Option.map_none, Nat.reduceSub, Nat.reduceAdd, Nat.reduceEqDiff, if_true, if_false, Bool.false_eq_true, reduceIte, Nat.zero_add, fComp, fItems, itemsOf, extOf, wipeE, fEnum, fRng1, fRng2, fSigns, lenD, tupD, lstD, ix0, ix1, ix2, eq_s, ne_s, eq_i, ne_i, add_i, sub_i, in_t2, in_t3, List.length_map, enc, w_do_do, w_do_all, w_do_any, w_do_then, w_do_without, w_do_within, w_do_done, w_do_failed, w_all_do, w_all_all, w_all_any, w_all_then, w_all_without, w_all_within, w_all_done, w_all_failed, w_any_do, w_any_all, w_any_any, w_any_then, w_any_without, w_any_within, w_any_done, w_any_failed, w_then_do, w_then_all, w_then_any, w_then_then, w_then_without, w_then_within, w_then_done, w_then_failed, w_without_do, w_without_all, w_without_any, w_without_then, w_without_without, w_without_within, w_without_done, w_without_failed, w_within_do, w_within_all, w_within_any, w_within_then, w_within_without, w_within_within, w_within_done, w_within_failed, w_done_do, w_done_all, w_done_any, w_done_then, w_done_without, w_done_within, w_done_done, w_done_failed, w_failed_do, w_failed_all, w_failed_any, w_failed_then, w_failed_without, w_failed_within, w_failed_done, w_failed_failed, step]
      by_cases hx : x = d
      · by_cases hm : m = 1
        · simp only [beq_str hx, if_pos hx, beq_int hm, if_pos hm, runB, fSeq, fIf, fRet, fAsg, fB, f1, f2, fA, fA0, fL, fV, fC, fTup, fLst, fNext, on1, on2, gN, gT, gsC, gs0, asB, fAnd, fOr, fBnd, fBor, fNot, fVB, fIte, fAndV, fOrV, notD, negD, fO, fO0, asI, fSl, fPar, List.map_cons, List.map_nil, List.length_cons, List.length_nil, List.reduceReplicate, List.cons_append, List.nil_append, List.append_nil, List.getElem?_cons_zero, List.getElem?_cons_succ, Option.join_some, Option.join_none, List.set_cons_zero, List.set_cons_succ, Option.bind_some, Option.bind_none, Option.map_some, Option.map_none, Nat.reduceSub, Nat.reduceAdd, Nat.reduceEqDiff, if_true, if_false, Bool.false_eq_true, reduceIte, Nat.zero_add, fComp, fItems, itemsOf, extOf, wipeE, fEnum, fRng1, fRng2, fSigns, lenD, tupD, lstD, ix0, ix1, ix2, eq_s, ne_s, eq_i, ne_i, add_i, sub_i, in_t2, in_t3, List.length_map, encR, intD, lst1]
        · subst hx
          simp only [beq_self_eq_true, bne_int hm, if_neg hm, runB, fSeq, fIf, fRet, fAsg, fB, f1, f2, fA, fA0, fL, fV, fC, fTup, fLst, fNext, on1, on2, gN, gT, gsC, gs0, asB, fAnd, fOr, fBnd, fBor, fNot, fVB, fIte, fAndV, fOrV, notD, negD, fO, fO0, asI, fSl, fPar, List.map_cons, List.map_nil, List.length_cons, List.length_nil, List.reduceReplicate, List.cons_append, List.nil_append, List.append_nil, List.getElem?_cons_zero, List.getElem?_cons_succ, Option.join_some, Option.join_none, List.set_cons_zero, List.set_cons_succ, Option.bind_some, Option.bind_none, Option.map_some, Option.map_none, Nat.reduceSub, Nat.reduceAdd, Nat.reduceEqDiff, if_true, if_false, Bool.false_eq_true, reduceIte, Nat.zero_add, fComp, fItems, itemsOf, extOf, wipeE, fEnum, fRng1, fRng2, fSigns, lenD, tupD, lstD, ix0, ix1, ix2, eq_s, ne_s, eq_i, ne_i, add_i, sub_i, in_t2, in_t3, List.length_map, encR, enc, intD, lst0]
      · simp only [bne_str hx, if_neg hx, Bool.not_false, runB, fSeq, fIf, fRet, fAsg, fB, f1, f2, fA, fA0, fL, fV, fC, fTup, fLst, fNext, on1, on2, gN, gT, gsC, gs0, asB, fAnd, fOr, fBnd, fBor, fNot, fVB, fIte, fAndV, fOrV, notD, negD, fO, fO0, asI, fSl, fPar, List.map_cons, List.map_nil, List.length_cons, List.length_nil, List.reduceReplicate, List.cons_append, List.nil_append, List.append_nil, List.getElem?_cons_zero, List.getElem?_cons_succ, Option.join_some, Option.join_none, List.set_cons_zero, List.set_cons_succ, Option.bind_some, Option.bind_none, Option.map_some, Option.map_none, Nat.reduceSub, Nat.reduceAdd, Nat.reduceEqDiff, if_true, if_false, Bool.false_eq_true, reduceIte, Nat.zero_add, fComp, fItems, itemsOf, extOf, wipeE, fEnum, fRng1, fRng2, fSigns, lenD, tupD, lstD, ix0, ix1, ix2, eq_s, ne_s, eq_i, ne_i, add_i, sub_i, in_t2, in_t3, List.length_map, encR, enc]
    | grp w ts =>
      have ho := steps_ok (x := x) h.2.2
      cases w with
      | all =>
        have c1 : compL (gN 10) fYes (fL (G__law_behind n 0) (fA (fV 10) (fA (fV 1) fA0))) [some (PyData.tuple [.str "all", .tuple (ts.map enc)]), some (.str x), some (.str "all"), none, none, none, none, none, none, none, none] (ts.map enc) = some ((steps x ts).map encR) := by
          rw [steps_map, List.map_map]
          exact compL_map fun t ht => by
            simp only [runB, fSeq, fIf, fRet, fAsg, fB, f1, f2, fA, fA0, fL, fV, fC, fTup, fLst, fNext, on1, on2, gN, gT, gsC, gs0, asB, fAnd, fOr, fBnd, fBor, fNot, fVB, fIte, fAndV, fOrV, notD, negD, fO, fO0, asI, fSl, fPar, List.map_cons, List.map_nil, List.length_cons, List.length_nil, List.reduceReplicate, List.cons_append, List.nil_append, List.append_nil, List.getElem?_cons_zero, List.getElem?_cons_succ, Option.join_some, Option.join_none, List.set_cons_zero, List.set_cons_succ, Option.bind_some, Option.bind_none, Option.map_some, Option.map_none, Nat.reduceSub, Nat.reduceAdd, Nat.reduceEqDiff, if_true, if_false, Bool.false_eq_true, reduceIte, Nat.zero_add]
            exact ih t (h.2.2 t ht)
        have c2 : compL (gN 9) (fB (f2 neP (fV 9) (fV 7))) (fV 9) [some (PyData.tuple [.str "all", .tuple (ts.map enc)]), some (.str x), some (.str "all"), none, none, some (.list ((steps x ts).map encR)), some (.str "failed"), some (.str "done"), none, none, none] ((steps x ts).map encR) = some (((steps x ts).filter fun r => !r.isDone).map encR) :=
          compL_gen (fun q hq => by simp only [runB, fSeq, fIf, fRet, fAsg, fB, f1, f2, fA, fA0, fL, fV, fC, fTup, fLst, fNext, on1, on2, gN, gT, gsC, gs0, asB, fAnd, fOr, fBnd, fBor, fNot, fVB, fIte, fAndV, fOrV, notD, negD, fO, fO0, asI, fSl, fPar, List.map_cons, List.map_nil, List.length_cons, List.length_nil, List.reduceReplicate, List.cons_append, List.nil_append, List.append_nil, List.getElem?_cons_zero, List.getElem?_cons_succ, Option.join_some, Option.join_none, List.set_cons_zero, List.set_cons_succ, Option.bind_some, Option.bind_none, Option.map_some, Option.map_none, Nat.reduceSub, Nat.reduceAdd, Nat.reduceEqDiff, if_true, if_false, Bool.false_eq_true, reduceIte, Nat.zero_add, ne_done (by omega) (ho q hq)]) fun q _ _ => by simp only [runB, fSeq, fIf, fRet, fAsg, fB, f1, f2, fA, fA0, fL, fV, fC, fTup, fLst, fNext, on1, on2, gN, gT, gsC, gs0, asB, fAnd, fOr, fBnd, fBor, fNot, fVB, fIte, fAndV, fOrV, notD, negD, fO, fO0, asI, fSl, fPar, List.map_cons, List.map_nil, List.length_cons, List.length_nil, List.reduceReplicate, List.cons_append, List.nil_append, List.append_nil, List.getElem?_cons_zero, List.getElem?_cons_succ, Option.join_some, Option.join_none, List.set_cons_zero, List.set_cons_succ, Option.bind_some, Option.bind_none, Option.map_some, Option.map_none, Nat.reduceSub, Nat.reduceAdd, Nat.reduceEqDiff, if_true, if_false, Bool.false_eq_true, reduceIte, Nat.zero_add]
        simp only [runB, fSeq, fIf, fRet, fAsg, fB, f1, f2, fA, fA0, fL, fV, fC, fTup, fLst, fNext, on1, on2, gN, gT, gsC, gs0, asB, fAnd, fOr, fBnd, fBor, fNot, fVB, fIte, fAndV, fOrV, notD, negD, fO, fO0, asI, fSl, fPar, List.map_cons, List.map_nil, List.length_cons, List.length_nil, List.reduceReplicate, List.cons_append, List.nil_append, List.append_nil, List.getElem?_cons_zero, List.getElem?_cons_succ, Option.join_some, Option.join_none, List.set_cons_zero, List.set_cons_succ, Option.bind_some, Option.bind_none, Option.map_some, Option.map_none, Nat.reduceSub, Nat.reduceAdd, Nat.reduceEqDiff, if_true, if_false, Bool.false_eq_true, reduceIte, Nat.zero_add, fComp, fItems, itemsOf, extOf, wipeE, fEnum, fRng1, fRng2, fSigns, lenD, tupD, lstD, ix0, ix1, ix2, eq_s, ne_s, eq_i, ne_i, add_i, sub_i, in_t2, in_t3, List.length_map, enc, encs_map, Gw.str_all, w_do_do, w_do_all, w_do_any, w_do_then, w_do_without, w_do_within, w_do_done, w_do_failed, w_all_do, w_all_all, w_all_any, w_all_then, w_all_without, w_all_within, w_all_done, w_all_failed, w_any_do, w_any_all, w_any_any, w_any_then, w_any_without, w_any_within, w_any_done, w_any_failed, w_then_do, w_then_all, w_then_any, w_then_then, w_then_without, w_then_within, w_then_done, w_then_failed, w_without_do, w_without_all, w_without_any, w_without_then, w_without_without, w_without_within, w_without_done, w_without_failed, w_within_do, w_within_all, w_within_any, w_within_then, w_within_without, w_within_within, w_within_done, w_within_failed, w_done_do, w_done_all, w_done_any, w_done_then, w_done_without, w_done_within, w_done_done, w_done_failed, w_failed_do, w_failed_all, w_failed_any, w_failed_then, w_failed_without, w_failed_within, w_failed_done, w_failed_failed, Bool.or_false, Bool.or_true, Bool.or_self, c1, intD, lst0, in_failed (by omega) ho, step, endAll]
        cases hf : (steps x ts).any Res.isFailed with
        | true => simp only [runB, fSeq, fIf, fRet, fAsg, fB, f1, f2, fA, fA0, fL, fV, fC, fTup, fLst, fNext, on1, on2, gN, gT, gsC, gs0, asB, fAnd, fOr, fBnd, fBor, fNot, fVB, fIte, fAndV, fOrV, notD, negD, fO, fO0, asI, fSl, fPar, List.map_cons, List.map_nil, List.length_cons, List.length_nil, List.reduceReplicate, List.cons_append, List.nil_append, List.append_nil, List.getElem?_cons_zero, List.getElem?_cons_succ, Option.join_some, Option.join_none, List.set_cons_zero, List.set_cons_succ, Option.bind_some, Option.bind_none, Option.map_some, Option.map_none, Nat.reduceSub, Nat.reduceAdd, Nat.reduceEqDiff, if_true, if_false, Bool.false_eq_true, reduceIte, Nat.zero_add, fComp, fItems, itemsOf, extOf, wipeE, fEnum, fRng1, fRng2, fSigns, lenD, tupD, lstD, ix0, ix1, ix2, eq_s, ne_s, eq_i, ne_i, add_i, sub_i, in_t2, in_t3, List.length_map, encR]
        | false =>
          simp only [runB, fSeq, fIf, fRet, fAsg, fB, f1, f2, fA, fA0, fL, fV, fC, fTup, fLst, fNext, on1, on2, gN, gT, gsC, gs0, asB, fAnd, fOr, fBnd, fBor, fNot, fVB, fIte, fAndV, fOrV, notD, negD, fO, fO0, asI, fSl, fPar, List.map_cons, List.map_nil, List.length_cons, List.length_nil, List.reduceReplicate, List.cons_append, List.nil_append, List.append_nil, List.getElem?_cons_zero, List.getElem?_cons_succ, Option.join_some, Option.join_none, List.set_cons_zero, List.set_cons_succ, Option.bind_some, Option.bind_none, Option.map_some, Option.map_none, Nat.reduceSub, Nat.reduceAdd, Nat.reduceEqDiff, if_true, if_false, Bool.false_eq_true, reduceIte, Nat.zero_add, fComp, fItems, itemsOf, extOf, wipeE, fEnum, fRng1, fRng2, fSigns, lenD, tupD, lstD, ix0, ix1, ix2, eq_s, ne_s, eq_i, ne_i, add_i, sub_i, in_t2, in_t3, List.length_map, c2, left_done hf, eq_nil (by omega) (lefts_ok ho)]
          cases hl : Res.lefts (steps x ts) with
          | nil => simp only [List.isEmpty_nil, runB, fSeq, fIf, fRet, fAsg, fB, f1, f2, fA, fA0, fL, fV, fC, fTup, fLst, fNext, on1, on2, gN, gT, gsC, gs0, asB, fAnd, fOr, fBnd, fBor, fNot, fVB, fIte, fAndV, fOrV, notD, negD, fO, fO0, asI, fSl, fPar, List.map_cons, List.map_nil, List.length_cons, List.length_nil, List.reduceReplicate, List.cons_append, List.nil_append, List.append_nil, List.getElem?_cons_zero, List.getElem?_cons_succ, Option.join_some, Option.join_none, List.set_cons_zero, List.set_cons_succ, Option.bind_some, Option.bind_none, Option.map_some, Option.map_none, Nat.reduceSub, Nat.reduceAdd, Nat.reduceEqDiff, if_true, if_false, Bool.false_eq_true, reduceIte, Nat.zero_add, fComp, fItems, itemsOf, extOf, wipeE, fEnum, fRng1, fRng2, fSigns, lenD, tupD, lstD, ix0, ix1, ix2, eq_s, ne_s, eq_i, ne_i, add_i, sub_i, in_t2, in_t3, List.length_map, encR]
          | cons t l =>
            have := F_lgroupT .all (t :: l) (by simp)
            simp only [Gw.str_all, List.map_cons] at this
            simp only [List.isEmpty_cons, runB, fSeq, fIf, fRet, fAsg, fB, f1, f2, fA, fA0, fL, fV, fC, fTup, fLst, fNext, on1, on2, gN, gT, gsC, gs0, asB, fAnd, fOr, fBnd, fBor, fNot, fVB, fIte, fAndV, fOrV, notD, negD, fO, fO0, asI, fSl, fPar, List.map_cons, List.map_nil, List.length_cons, List.length_nil, List.reduceReplicate, List.cons_append, List.nil_append, List.append_nil, List.getElem?_cons_zero, List.getElem?_cons_succ, Option.join_some, Option.join_none, List.set_cons_zero, List.set_cons_succ, Option.bind_some, Option.bind_none, Option.map_some, Option.map_none, Nat.reduceSub, Nat.reduceAdd, Nat.reduceEqDiff, if_true, if_false, Bool.false_eq_true, reduceIte, Nat.zero_add, fComp, fItems, itemsOf, extOf, wipeE, fEnum, fRng1, fRng2, fSigns, lenD, tupD, lstD, ix0, ix1, ix2, eq_s, ne_s, eq_i, ne_i, add_i, sub_i, in_t2, in_t3, List.length_map, this, encR]
      | any =>
        have c1 : compL (gN 10) fYes (fL (G__law_behind n 0) (fA (fV 10) (fA (fV 1) fA0))) [some (PyData.tuple [.str "any", .tuple (ts.map enc)]), some (.str x), some (.str "any"), none, none, none, none, none, none, none, none] (ts.map enc) = some ((steps x ts).map encR) := by
          rw [steps_map, List.map_map]
          exact compL_map fun t ht => by
            simp only [runB, fSeq, fIf, fRet, fAsg, fB, f1, f2, fA, fA0, fL, fV, fC, fTup, fLst, fNext, on1, on2, gN, gT, gsC, gs0, asB, fAnd, fOr, fBnd, fBor, fNot, fVB, fIte, fAndV, fOrV, notD, negD, fO, fO0, asI, fSl, fPar, List.map_cons, List.map_nil, List.length_cons, List.length_nil, List.reduceReplicate, List.cons_append, List.nil_append, List.append_nil, List.getElem?_cons_zero, List.getElem?_cons_succ, Option.join_some, Option.join_none, List.set_cons_zero, List.set_cons_succ, Option.bind_some, Option.bind_none, Option.map_some, Option.map_none, Nat.reduceSub, Nat.reduceAdd, Nat.reduceEqDiff, if_true, if_false, Bool.false_eq_true, reduceIte, Nat.zero_add]
            exact ih t (h.2.2 t ht)
        have c2 : compL (gN 9) (fB (f2 neP (fV 9) (fV 7))) (fV 9) [some (PyData.tuple [.str "any", .tuple (ts.map enc)]), some (.str x), some (.str "any"), none, none, some (.list ((steps x ts).map encR)), some (.str "done"), some (.str "failed"), none, none, none] ((steps x ts).map encR) = some (((steps x ts).filter fun r => !r.isFailed).map encR) :=
          compL_gen (fun q hq => by simp only [runB, fSeq, fIf, fRet, fAsg, fB, f1, f2, fA, fA0, fL, fV, fC, fTup, fLst, fNext, on1, on2, gN, gT, gsC, gs0, asB, fAnd, fOr, fBnd, fBor, fNot, fVB, fIte, fAndV, fOrV, notD, negD, fO, fO0, asI, fSl, fPar, List.map_cons, List.map_nil, List.length_cons, List.length_nil, List.reduceReplicate, List.cons_append, List.nil_append, List.append_nil, List.getElem?_cons_zero, List.getElem?_cons_succ, Option.join_some, Option.join_none, List.set_cons_zero, List.set_cons_succ, Option.bind_some, Option.bind_none, Option.map_some, Option.map_none, Nat.reduceSub, Nat.reduceAdd, Nat.reduceEqDiff, if_true, if_false, Bool.false_eq_true, reduceIte, Nat.zero_add, ne_failed (by omega) (ho q hq)]) fun q _ _ => by simp only [runB, fSeq, fIf, fRet, fAsg, fB, f1, f2, fA, fA0, fL, fV, fC, fTup, fLst, fNext, on1, on2, gN, gT, gsC, gs0, asB, fAnd, fOr, fBnd, fBor, fNot, fVB, fIte, fAndV, fOrV, notD, negD, fO, fO0, asI, fSl, fPar, List.map_cons, List.map_nil, List.length_cons, List.length_nil, List.reduceReplicate, List.cons_append, List.nil_append, List.append_nil, List.getElem?_cons_zero, List.getElem?_cons_succ, Option.join_some, Option.join_none, List.set_cons_zero, List.set_cons_succ, Option.bind_some, Option.bind_none, Option.map_some, Option.map_none, Nat.reduceSub, Nat.reduceAdd, Nat.reduceEqDiff, if_true, if_false, Bool.false_eq_true, reduceIte, Nat.zero_add]
        simp only [runB, fSeq, fIf, fRet, fAsg, fB, f1, f2, fA, fA0, fL, fV, fC, fTup, fLst, fNext, on1, on2, gN, gT, gsC, gs0, asB, fAnd, fOr, fBnd, fBor, fNot, fVB, fIte, fAndV, fOrV, notD, negD, fO, fO0, asI, fSl, fPar, List.map_cons, List.map_nil, List.length_cons, List.length_nil, List.reduceReplicate, List.cons_append, List.nil_append, List.append_nil, List.getElem?_cons_zero, List.getElem?_cons_succ, Option.join_some, Option.join_none, List.set_cons_zero, List.set_cons_succ, Option.bind_some, Option.bind_none, Option.map_some, Option.map_none, Nat.reduceSub, Nat.reduceAdd, Nat.reduceEqDiff, if_true, if_false, Bool.false_eq_true, reduceIte, Nat.zero_add, fComp, fItems, itemsOf, extOf, wipeE, fEnum, fRng1, fRng2, fSigns, lenD, tupD, lstD, ix0, ix1, ix2, eq_s, ne_s, eq_i, ne_i, add_i, sub_i, in_t2, in_t3, List.length_map, enc, encs_map, Gw.str_any, w_do_do, w_do_all, w_do_any, w_do_then, w_do_without, w_do_within, w_do_done, w_do_failed, w_all_do, w_all_all, w_all_any, w_all_then, w_all_without, w_all_within, w_all_done, w_all_failed, w_any_do, w_any_all, w_any_any, w_any_then, w_any_without, w_any_within, w_any_done, w_any_failed, w_then_do, w_then_all, w_then_any, w_then_then, w_then_without, w_then_within, w_then_done, w_then_failed, w_without_do, w_without_all, w_without_any, w_without_then, w_without_without, w_without_within, w_without_done, w_without_failed, w_within_do, w_within_all, w_within_any, w_within_then, w_within_without, w_within_within, w_within_done, w_within_failed, w_done_do, w_done_all, w_done_any, w_done_then, w_done_without, w_done_within, w_done_done, w_done_failed, w_failed_do, w_failed_all, w_failed_any, w_failed_then, w_failed_without, w_failed_within, w_failed_done, w_failed_failed, Bool.or_false, Bool.or_true, Bool.or_self, c1, intD, lst1, in_done (by omega) ho, step, endAny]
        cases hf : (steps x ts).any Res.isDone with
        | true => simp only [runB, fSeq, fIf, fRet, fAsg, fB, f1, f2, fA, fA0, fL, fV, fC, fTup, fLst, fNext, on1, on2, gN, gT, gsC, gs0, asB, fAnd, fOr, fBnd, fBor, fNot, fVB, fIte, fAndV, fOrV, notD, negD, fO, fO0, asI, fSl, fPar, List.map_cons, List.map_nil, List.length_cons, List.length_nil, List.reduceReplicate, List.cons_append, List.nil_append, List.append_nil, List.getElem?_cons_zero, List.getElem?_cons_succ, Option.join_some, Option.join_none, List.set_cons_zero, List.set_cons_succ, Option.bind_some, Option.bind_none, Option.map_some, Option.map_none, Nat.reduceSub, Nat.reduceAdd, Nat.reduceEqDiff, if_true, if_false, Bool.false_eq_true, reduceIte, Nat.zero_add, fComp, fItems, itemsOf, extOf, wipeE, fEnum, fRng1, fRng2, fSigns, lenD, tupD, lstD, ix0, ix1, ix2, eq_s, ne_s, eq_i, ne_i, add_i, sub_i, in_t2, in_t3, List.length_map, encR]
        | false =>
          simp only [runB, fSeq, fIf, fRet, fAsg, fB, f1, f2, fA, fA0, fL, fV, fC, fTup, fLst, fNext, on1, on2, gN, gT, gsC, gs0, asB, fAnd, fOr, fBnd, fBor, fNot, fVB, fIte, fAndV, fOrV, notD, negD, fO, fO0, asI, fSl, fPar, List.map_cons, List.map_nil, List.length_cons, List.length_nil, List.reduceReplicate, List.cons_append, List.nil_append, List.append_nil, List.getElem?_cons_zero, List.getElem?_cons_succ, Option.join_some, Option.join_none, List.set_cons_zero, List.set_cons_succ, Option.bind_some, Option.bind_none, Option.map_some, Option.map_none, Nat.reduceSub, Nat.reduceAdd, Nat.reduceEqDiff, if_true, if_false, Bool.false_eq_true, reduceIte, Nat.zero_add, fComp, fItems, itemsOf, extOf, wipeE, fEnum, fRng1, fRng2, fSigns, lenD, tupD, lstD, ix0, ix1, ix2, eq_s, ne_s, eq_i, ne_i, add_i, sub_i, in_t2, in_t3, List.length_map, c2, left_failed hf, eq_nil (by omega) (lefts_ok ho)]
          cases hl : Res.lefts (steps x ts) with
          | nil => simp only [List.isEmpty_nil, runB, fSeq, fIf, fRet, fAsg, fB, f1, f2, fA, fA0, fL, fV, fC, fTup, fLst, fNext, on1, on2, gN, gT, gsC, gs0, asB, fAnd, fOr, fBnd, fBor, fNot, fVB, fIte, fAndV, fOrV, notD, negD, fO, fO0, asI, fSl, fPar, List.map_cons, List.map_nil, List.length_cons, List.length_nil, List.reduceReplicate, List.cons_append, List.nil_append, List.append_nil, List.getElem?_cons_zero, List.getElem?_cons_succ, Option.join_some, Option.join_none, List.set_cons_zero, List.set_cons_succ, Option.bind_some, Option.bind_none, Option.map_some, Option.map_none, Nat.reduceSub, Nat.reduceAdd, Nat.reduceEqDiff, if_true, if_false, Bool.false_eq_true, reduceIte, Nat.zero_add, fComp, fItems, itemsOf, extOf, wipeE, fEnum, fRng1, fRng2, fSigns, lenD, tupD, lstD, ix0, ix1, ix2, eq_s, ne_s, eq_i, ne_i, add_i, sub_i, in_t2, in_t3, List.length_map, encR]
          | cons t l =>
            have := F_lgroupT .any (t :: l) (by simp)
            simp only [Gw.str_any, List.map_cons] at this
            simp only [List.isEmpty_cons, runB, fSeq, fIf, fRet, fAsg, fB, f1, f2, fA, fA0, fL, fV, fC, fTup, fLst, fNext, on1, on2, gN, gT, gsC, gs0, asB, fAnd, fOr, fBnd, fBor, fNot, fVB, fIte, fAndV, fOrV, notD, negD, fO, fO0, asI, fSl, fPar, List.map_cons, List.map_nil, List.length_cons, List.length_nil, List.reduceReplicate, List.cons_append, List.nil_append, List.append_nil, List.getElem?_cons_zero, List.getElem?_cons_succ, Option.join_some, Option.join_none, List.set_cons_zero, List.set_cons_succ, Option.bind_some, Option.bind_none, Option.map_some, Option.map_none, Nat.reduceSub, Nat.reduceAdd, Nat.reduceEqDiff, if_true, if_false, Bool.false_eq_true, reduceIte, Nat.zero_add, fComp, fItems, itemsOf, extOf, wipeE, fEnum, fRng1, fRng2, fSigns, lenD, tupD, lstD, ix0, ix1, ix2, eq_s, ne_s, eq_i, ne_i, add_i, sub_i, in_t2, in_t3, List.length_map, this, encR]
      | thn =>
        match ts, h with
        | [], h => exact absurd rfl h.1
        | t :: ts, h =>
          have ht := h.2.2 t List.mem_cons_self
          have hq := ih t ht
          have ho := step_ok k t x ht
          simp only [runB, fSeq, fIf, fRet, fAsg, fB, f1, f2, fA, fA0, fL, fV, fC, fTup, fLst, fNext, on1, on2, gN, gT, gsC, gs0, asB, fAnd, fOr, fBnd, fBor, fNot, fVB, fIte, fAndV, fOrV, notD, negD, fO, fO0, asI, fSl, fPar, List.map_cons, List.map_nil, List.length_cons, List.length_nil, List.reduceReplicate, List.cons_append, List.nil_append, List.append_nil, List.getElem?_cons_zero, List.getElem?_cons_succ, Option.join_some, Option.join_none, List.set_cons_zero, List.set_cons_succ, Option.bind_some, Option.bind_none, Option.map_some, Option.map_none, Nat.reduceSub, Nat.reduceAdd, Nat.reduceEqDiff, if_true, if_false, Bool.false_eq_true, reduceIte, Nat.zero_add, fComp, fItems, itemsOf, extOf, wipeE, fEnum, fRng1, fRng2, fSigns, lenD, tupD, lstD, ix0, ix1, ix2, eq_s, ne_s, eq_i, ne_i, add_i, sub_i, in_t2, in_t3, List.length_map, enc, encs_map, encs, Gw.str_thn, w_do_do, w_do_all, w_do_any, w_do_then, w_do_without, w_do_within, w_do_done, w_do_failed, w_all_do, w_all_all, w_all_any, w_all_then, w_all_without, w_all_within, w_all_done, w_all_failed, w_any_do, w_any_all, w_any_any, w_any_then, w_any_without, w_any_within, w_any_done, w_any_failed, w_then_do, w_then_all, w_then_any, w_then_then, w_then_without, w_then_within, w_then_done, w_then_failed, w_without_do, w_without_all, w_without_any, w_without_then, w_without_without, w_without_within, w_without_done, w_without_failed, w_within_do, w_within_all, w_within_any, w_within_then, w_within_without, w_within_within, w_within_done, w_within_failed, w_done_do, w_done_all, w_done_any, w_done_then, w_done_without, w_done_within, w_done_done, w_done_failed, w_failed_do, w_failed_all, w_failed_any, w_failed_then, w_failed_without, w_failed_within, w_failed_done, w_failed_failed, hq, eq_failed (by omega) ho, step, endThn]
          cases e : step x t with
          | failed => simp only [Res.isFailed, runB, fSeq, fIf, fRet, fAsg, fB, f1, f2, fA, fA0, fL, fV, fC, fTup, fLst, fNext, on1, on2, gN, gT, gsC, gs0, asB, fAnd, fOr, fBnd, fBor, fNot, fVB, fIte, fAndV, fOrV, notD, negD, fO, fO0, asI, fSl, fPar, List.map_cons, List.map_nil, List.length_cons, List.length_nil, List.reduceReplicate, List.cons_append, List.nil_append, List.append_nil, List.getElem?_cons_zero, List.getElem?_cons_succ, Option.join_some, Option.join_none, List.set_cons_zero, List.set_cons_succ, Option.bind_some, Option.bind_none, Option.map_some, Option.map_none, Nat.reduceSub, Nat.reduceAdd, Nat.reduceEqDiff, if_true, if_false, Bool.false_eq_true, reduceIte, Nat.zero_add, fComp, fItems, itemsOf, extOf, wipeE, fEnum, fRng1, fRng2, fSigns, lenD, tupD, lstD, ix0, ix1, ix2, eq_s, ne_s, eq_i, ne_i, add_i, sub_i, in_t2, in_t3, List.length_map, encR]
          | left u =>
            have hg := F_lgroupT .thn (u :: ts) (by simp)
            rw [e] at ho
            have hne := ne_done (by omega) ho
            simp only [Gw.str_thn, List.map_cons] at hg
            have hz : 1 + ts.length ≤ sizeLine := Nat.le_trans (by have := h.2.1.2; simp only [List.length_cons] at this; omega : 1 + ts.length ≤ 1001) (by decide)
            simp only [Res.isFailed, runB, fSeq, fIf, fRet, fAsg, fB, f1, f2, fA, fA0, fL, fV, fC, fTup, fLst, fNext, on1, on2, gN, gT, gsC, gs0, asB, fAnd, fOr, fBnd, fBor, fNot, fVB, fIte, fAndV, fOrV, notD, negD, fO, fO0, asI, fSl, fPar, List.map_cons, List.map_nil, List.length_cons, List.length_nil, List.reduceReplicate, List.cons_append, List.nil_append, List.append_nil, List.getElem?_cons_zero, List.getElem?_cons_succ, Option.join_some, Option.join_none, List.set_cons_zero, List.set_cons_succ, Option.bind_some, Option.bind_none, Option.map_some, Option.map_none, Nat.reduceSub, Nat.reduceAdd, Nat.reduceEqDiff, if_true, if_false, Bool.false_eq_true, reduceIte, Nat.zero_add, fComp, fItems, itemsOf, extOf, wipeE, fEnum, fRng1, fRng2, fSigns, lenD, tupD, lstD, ix0, ix1, ix2, eq_s, ne_s, eq_i, ne_i, add_i, sub_i, in_t2, in_t3, List.length_map, slD, cut1, hne, Res.isDone, Bool.not_false, addD, List.length_singleton, if_pos hz, List.singleton_append]
            simp only [encR, hg, runB, fSeq, fIf, fRet, fAsg, fB, f1, f2, fA, fA0, fL, fV, fC, fTup, fLst, fNext, on1, on2, gN, gT, gsC, gs0, asB, fAnd, fOr, fBnd, fBor, fNot, fVB, fIte, fAndV, fOrV, notD, negD, fO, fO0, asI, fSl, fPar, List.map_cons, List.map_nil, List.length_cons, List.length_nil, List.reduceReplicate, List.cons_append, List.nil_append, List.append_nil, List.getElem?_cons_zero, List.getElem?_cons_succ, Option.join_some, Option.join_none, List.set_cons_zero, List.set_cons_succ, Option.bind_some, Option.bind_none, Option.map_some, Option.map_none, Nat.reduceSub, Nat.reduceAdd, Nat.reduceEqDiff, if_true, if_false, Bool.false_eq_true, reduceIte, Nat.zero_add, fComp, fItems, itemsOf, extOf, wipeE, fEnum, fRng1, fRng2, fSigns, lenD, tupD, lstD, ix0, ix1, ix2, eq_s, ne_s, eq_i, ne_i, add_i, sub_i, in_t2, in_t3, List.length_map]
          | done =>
            rw [e] at ho
            have hne := ne_done (by omega) ho
            simp only [Res.isFailed, runB, fSeq, fIf, fRet, fAsg, fB, f1, f2, fA, fA0, fL, fV, fC, fTup, fLst, fNext, on1, on2, gN, gT, gsC, gs0, asB, fAnd, fOr, fBnd, fBor, fNot, fVB, fIte, fAndV, fOrV, notD, negD, fO, fO0, asI, fSl, fPar, List.map_cons, List.map_nil, List.length_cons, List.length_nil, List.reduceReplicate, List.cons_append, List.nil_append, List.append_nil, List.getElem?_cons_zero, List.getElem?_cons_succ, Option.join_some, Option.join_none, List.set_cons_zero, List.set_cons_succ, Option.bind_some, Option.bind_none, Option.map_some, Option.map_none, Nat.reduceSub, Nat.reduceAdd, Nat.reduceEqDiff, if_true, if_false, Bool.false_eq_true, reduceIte, Nat.zero_add, fComp, fItems, itemsOf, extOf, wipeE, fEnum, fRng1, fRng2, fSigns, lenD, tupD, lstD, ix0, ix1, ix2, eq_s, ne_s, eq_i, ne_i, add_i, sub_i, in_t2, in_t3, List.length_map, slD, cut1, hne, Res.isDone, Bool.not_true]
            cases ts with
            | nil => exact absurd (h.2.1.1 rfl) (by simp)
            | cons u l =>
              have hg := F_lgroupT .thn (u :: l) (by simp)
              simp only [Gw.str_thn, List.map_cons] at hg
              simp only [runB, fSeq, fIf, fRet, fAsg, fB, f1, f2, fA, fA0, fL, fV, fC, fTup, fLst, fNext, on1, on2, gN, gT, gsC, gs0, asB, fAnd, fOr, fBnd, fBor, fNot, fVB, fIte, fAndV, fOrV, notD, negD, fO, fO0, asI, fSl, fPar, List.map_cons, List.map_nil, List.length_cons, List.length_nil, List.reduceReplicate, List.cons_append, List.nil_append, List.append_nil, List.getElem?_cons_zero, List.getElem?_cons_succ, Option.join_some, Option.join_none, List.set_cons_zero, List.set_cons_succ, Option.bind_some, Option.bind_none, Option.map_some, Option.map_none, Nat.reduceSub, Nat.reduceAdd, Nat.reduceEqDiff, if_true, if_false, Bool.false_eq_true, reduceIte, Nat.zero_add, fComp, fItems, itemsOf, extOf, wipeE, fEnum, fRng1, fRng2, fSigns, lenD, tupD, lstD, ix0, ix1, ix2, eq_s, ne_s, eq_i, ne_i, add_i, sub_i, in_t2, in_t3, List.length_map, hg, encR]
    | wout d t =>
      have q := ih t h.2
      simp only [runB, fSeq, fIf, fRet, fAsg, fB, f1, f2, fA, fA0, fL, fV, fC, fTup, fLst, fNext, on1, on2, gN, gT, gsC, gs0, asB, fAnd, fOr, fBnd, fBor, fNot, fVB, fIte, fAndV, fOrV, notD, negD, fO, fO0, asI, fSl, fPar, List.map_cons, List.map_nil, List.length_cons, List.length_nil, List.reduceReplicate, List.cons_append, List.nil_append, List.append_nil, List.getElem?_cons_zero, List.getElem?_cons_succ, Option.join_some, Option.join_none, List.set_cons_zero, List.set_cons_succ, Option.bind_some, Option.bind_none, Option.map_some, Option.map_none, Nat.reduceSub, Nat.reduceAdd, Nat.reduceEqDiff, if_true, if_false, Bool.false_eq_true, reduceIte, Nat.zero_add, fComp, fItems, itemsOf, extOf, wipeE, fEnum, fRng1, fRng2, fSigns, lenD, tupD, lstD, ix0, ix1, ix2, eq_s, ne_s, eq_i, ne_i, add_i, sub_i, in_t2, in_t3, List.length_map, enc, w_do_do, w_do_all, w_do_any, w_do_then, w_do_without, w_do_within, w_do_done, w_do_failed, w_all_do, w_all_all, w_all_any, w_all_then, w_all_without, w_all_within, w_all_done, w_all_failed, w_any_do, w_any_all, w_any_any, w_any_then, w_any_without, w_any_within, w_any_done, w_any_failed, w_then_do, w_then_all, w_then_any, w_then_then, w_then_without, w_then_within, w_then_done, w_then_failed, w_without_do, w_without_all, w_without_any, w_without_then, w_without_without, w_without_within, w_without_done, w_without_failed, w_within_do, w_within_all, w_within_any, w_within_then, w_within_without, w_within_within, w_within_done, w_within_failed, w_done_do, w_done_all, w_done_any, w_done_then, w_done_without, w_done_within, w_done_done, w_done_failed, w_failed_do, w_failed_all, w_failed_any, w_failed_then, w_failed_without, w_failed_within, w_failed_done, w_failed_failed, Bool.or_false, Bool.or_self, step, q]
      by_cases hx : x = d
      · simp only [beq_str hx, if_pos hx, runB, fSeq, fIf, fRet, fAsg, fB, f1, f2, fA, fA0, fL, fV, fC, fTup, fLst, fNext, on1, on2, gN, gT, gsC, gs0, asB, fAnd, fOr, fBnd, fBor, fNot, fVB, fIte, fAndV, fOrV, notD, negD, fO, fO0, asI, fSl, fPar, List.map_cons, List.map_nil, List.length_cons, List.length_nil, List.reduceReplicate, List.cons_append, List.nil_append, List.append_nil, List.getElem?_cons_zero, List.getElem?_cons_succ, Option.join_some, Option.join_none, List.set_cons_zero, List.set_cons_succ, Option.bind_some, Option.bind_none, Option.map_some, Option.map_none, Nat.reduceSub, Nat.reduceAdd, Nat.reduceEqDiff, if_true, if_false, Bool.false_eq_true, reduceIte, Nat.zero_add, fComp, fItems, itemsOf, extOf, wipeE, fEnum, fRng1, fRng2, fSigns, lenD, tupD, lstD, ix0, ix1, ix2, eq_s, ne_s, eq_i, ne_i, add_i, sub_i, in_t2, in_t3, List.length_map, encR]
      · simp only [bne_str hx, if_neg hx, runB, fSeq, fIf, fRet, fAsg, fB, f1, f2, fA, fA0, fL, fV, fC, fTup, fLst, fNext, on1, on2, gN, gT, gsC, gs0, asB, fAnd, fOr, fBnd, fBor, fNot, fVB, fIte, fAndV, fOrV, notD, negD, fO, fO0, asI, fSl, fPar, List.map_cons, List.map_nil, List.length_cons, List.length_nil, List.reduceReplicate, List.cons_append, List.nil_append, List.append_nil, List.getElem?_cons_zero, List.getElem?_cons_succ, Option.join_some, Option.join_none, List.set_cons_zero, List.set_cons_succ, Option.bind_some, Option.bind_none, Option.map_some, Option.map_none, Nat.reduceSub, Nat.reduceAdd, Nat.reduceEqDiff, if_true, if_false, Bool.false_eq_true, reduceIte, Nat.zero_add, fComp, fItems, itemsOf, extOf, wipeE, fEnum, fRng1, fRng2, fSigns, lenD, tupD, lstD, ix0, ix1, ix2, eq_s, ne_s, eq_i, ne_i, add_i, sub_i, in_t2, in_t3, List.length_map, q, slD, cutT2, F_kept [PyData.str "without", PyData.str d] (step x t) (by simp)]
        cases e : step x t with
        | done => simp only [runB, fSeq, fIf, fRet, fAsg, fB, f1, f2, fA, fA0, fL, fV, fC, fTup, fLst, fNext, on1, on2, gN, gT, gsC, gs0, asB, fAnd, fOr, fBnd, fBor, fNot, fVB, fIte, fAndV, fOrV, notD, negD, fO, fO0, asI, fSl, fPar, List.map_cons, List.map_nil, List.length_cons, List.length_nil, List.reduceReplicate, List.cons_append, List.nil_append, List.append_nil, List.getElem?_cons_zero, List.getElem?_cons_succ, Option.join_some, Option.join_none, List.set_cons_zero, List.set_cons_succ, Option.bind_some, Option.bind_none, Option.map_some, Option.map_none, Nat.reduceSub, Nat.reduceAdd, Nat.reduceEqDiff, if_true, if_false, Bool.false_eq_true, reduceIte, Nat.zero_add, fComp, fItems, itemsOf, extOf, wipeE, fEnum, fRng1, fRng2, fSigns, lenD, tupD, lstD, ix0, ix1, ix2, eq_s, ne_s, eq_i, ne_i, add_i, sub_i, in_t2, in_t3, List.length_map, encR]
        | failed => simp only [runB, fSeq, fIf, fRet, fAsg, fB, f1, f2, fA, fA0, fL, fV, fC, fTup, fLst, fNext, on1, on2, gN, gT, gsC, gs0, asB, fAnd, fOr, fBnd, fBor, fNot, fVB, fIte, fAndV, fOrV, notD, negD, fO, fO0, asI, fSl, fPar, List.map_cons, List.map_nil, List.length_cons, List.length_nil, List.reduceReplicate, List.cons_append, List.nil_append, List.append_nil, List.getElem?_cons_zero, List.getElem?_cons_succ, Option.join_some, Option.join_none, List.set_cons_zero, List.set_cons_succ, Option.bind_some, Option.bind_none, Option.map_some, Option.map_none, Nat.reduceSub, Nat.reduceAdd, Nat.reduceEqDiff, if_true, if_false, Bool.false_eq_true, reduceIte, Nat.zero_add, fComp, fItems, itemsOf, extOf, wipeE, fEnum, fRng1, fRng2, fSigns, lenD, tupD, lstD, ix0, ix1, ix2, eq_s, ne_s, eq_i, ne_i, add_i, sub_i, in_t2, in_t3, List.length_map, encR]
        | left u => simp only [runB, fSeq, fIf, fRet, fAsg, fB, f1, f2, fA, fA0, fL, fV, fC, fTup, fLst, fNext, on1, on2, gN, gT, gsC, gs0, asB, fAnd, fOr, fBnd, fBor, fNot, fVB, fIte, fAndV, fOrV, notD, negD, fO, fO0, asI, fSl, fPar, List.map_cons, List.map_nil, List.length_cons, List.length_nil, List.reduceReplicate, List.cons_append, List.nil_append, List.append_nil, List.getElem?_cons_zero, List.getElem?_cons_succ, Option.join_some, Option.join_none, List.set_cons_zero, List.set_cons_succ, Option.bind_some, Option.bind_none, Option.map_some, Option.map_none, Nat.reduceSub, Nat.reduceAdd, Nat.reduceEqDiff, if_true, if_false, Bool.false_eq_true, reduceIte, Nat.zero_add, fComp, fItems, itemsOf, extOf, wipeE, fEnum, fRng1, fRng2, fSigns, lenD, tupD, lstD, ix0, ix1, ix2, eq_s, ne_s, eq_i, ne_i, add_i, sub_i, in_t2, in_t3, List.length_map, encR, enc]
    | wthn m t =>
      have q := ih t h.2
      have kp : ∀ m : Int, F__law_kept [.tuple [.str "within", .int m], encR (step x t)] = some (match step x t with | .left t => .tuple ([.str "within", .int m] ++ [enc t]) | r => encR r) := fun m => F_kept [PyData.str "within", .int m] (step x t) (by simp)
      simp only [runB, fSeq, fIf, fRet, fAsg, fB, f1, f2, fA, fA0, fL, fV, fC, fTup, fLst, fNext, on1, on2, gN, gT, gsC, gs0, asB, fAnd, fOr, fBnd, fBor, fNot, fVB, fIte, fAndV, fOrV, notD, negD, fO, fO0, asI, fSl, fPar, List.map_cons, List.map_nil, List.length_cons, List.length_nil, List.reduceReplicate, List.cons_append, List.nil_append, List.append_nil, List.getElem?_cons_zero, List.getElem?_cons_succ, Option.join_some, Option.join_none, List.set_cons_zero, List.set_cons_succ, Option.bind_some, Option.bind_none, Option.map_some, Option.map_none, Nat.reduceSub, Nat.reduceAdd, Nat.reduceEqDiff, if_true, if_false, Bool.false_eq_true, reduceIte, Nat.zero_add, fComp, fItems, itemsOf, extOf, wipeE, fEnum, fRng1, fRng2, fSigns, lenD, tupD, lstD, ix0, ix1, ix2, eq_s, ne_s, eq_i, ne_i, add_i, sub_i, in_t2, in_t3, List.length_map, enc, w_do_do, w_do_all, w_do_any, w_do_then, w_do_without, w_do_within, w_do_done, w_do_failed, w_all_do, w_all_all, w_all_any, w_all_then, w_all_without, w_all_within, w_all_done, w_all_failed, w_any_do, w_any_all, w_any_any, w_any_then, w_any_without, w_any_within, w_any_done, w_any_failed, w_then_do, w_then_all, w_then_any, w_then_then, w_then_without, w_then_within, w_then_done, w_then_failed, w_without_do, w_without_all, w_without_any, w_without_then, w_without_without, w_without_within, w_without_done, w_without_failed, w_within_do, w_within_all, w_within_any, w_within_then, w_within_without, w_within_within, w_within_done, w_within_failed, w_done_do, w_done_all, w_done_any, w_done_then, w_done_without, w_done_within, w_done_done, w_done_failed, w_failed_do, w_failed_all, w_failed_any, w_failed_then, w_failed_without, w_failed_within, w_failed_done, w_failed_failed, Bool.or_false, Bool.or_self, step, q, over_R]
      cases e : step x t with
      | done =>
        have kp := kp (m - 1)
        rw [e] at kp
        simp only [runB, fSeq, fIf, fRet, fAsg, fB, f1, f2, fA, fA0, fL, fV, fC, fTup, fLst, fNext, on1, on2, gN, gT, gsC, gs0, asB, fAnd, fOr, fBnd, fBor, fNot, fVB, fIte, fAndV, fOrV, notD, negD, fO, fO0, asI, fSl, fPar, List.map_cons, List.map_nil, List.length_cons, List.length_nil, List.reduceReplicate, List.cons_append, List.nil_append, List.append_nil, List.getElem?_cons_zero, List.getElem?_cons_succ, Option.join_some, Option.join_none, List.set_cons_zero, List.set_cons_succ, Option.bind_some, Option.bind_none, Option.map_some, Option.map_none, Nat.reduceSub, Nat.reduceAdd, Nat.reduceEqDiff, if_true, if_false, Bool.false_eq_true, reduceIte, Nat.zero_add, fComp, fItems, itemsOf, extOf, wipeE, fEnum, fRng1, fRng2, fSigns, lenD, tupD, lstD, ix0, ix1, ix2, eq_s, ne_s, eq_i, ne_i, add_i, sub_i, in_t2, in_t3, List.length_map, Bool.not_true, kp]
      | failed =>
        have kp := kp (m - 1)
        rw [e] at kp
        simp only [runB, fSeq, fIf, fRet, fAsg, fB, f1, f2, fA, fA0, fL, fV, fC, fTup, fLst, fNext, on1, on2, gN, gT, gsC, gs0, asB, fAnd, fOr, fBnd, fBor, fNot, fVB, fIte, fAndV, fOrV, notD, negD, fO, fO0, asI, fSl, fPar, List.map_cons, List.map_nil, List.length_cons, List.length_nil, List.reduceReplicate, List.cons_append, List.nil_append, List.append_nil, List.getElem?_cons_zero, List.getElem?_cons_succ, Option.join_some, Option.join_none, List.set_cons_zero, List.set_cons_succ, Option.bind_some, Option.bind_none, Option.map_some, Option.map_none, Nat.reduceSub, Nat.reduceAdd, Nat.reduceEqDiff, if_true, if_false, Bool.false_eq_true, reduceIte, Nat.zero_add, fComp, fItems, itemsOf, extOf, wipeE, fEnum, fRng1, fRng2, fSigns, lenD, tupD, lstD, ix0, ix1, ix2, eq_s, ne_s, eq_i, ne_i, add_i, sub_i, in_t2, in_t3, List.length_map, Bool.not_true, kp]
      | left u =>
        have kp := kp (m - 1)
        rw [e] at kp
        simp only [encR] at kp
        by_cases hm : m = 1
        · simp only [runB, fSeq, fIf, fRet, fAsg, fB, f1, f2, fA, fA0, fL, fV, fC, fTup, fLst, fNext, on1, on2, gN, gT, gsC, gs0, asB, fAnd, fOr, fBnd, fBor, fNot, fVB, fIte, fAndV, fOrV, notD, negD, fO, fO0, asI, fSl, fPar, List.map_cons, List.map_nil, List.length_cons, List.length_nil, List.reduceReplicate, List.cons_append, List.nil_append, List.append_nil, List.getElem?_cons_zero, List.getElem?_cons_succ, Option.join_some, Option.join_none, List.set_cons_zero, List.set_cons_succ, Option.bind_some, Option.bind_none, Option.map_some, Option.map_none, Nat.reduceSub, Nat.reduceAdd, Nat.reduceEqDiff, if_true, if_false, Bool.false_eq_true, reduceIte, Nat.zero_add, fComp, fItems, itemsOf, extOf, wipeE, fEnum, fRng1, fRng2, fSigns, lenD, tupD, lstD, ix0, ix1, ix2, eq_s, ne_s, eq_i, ne_i, add_i, sub_i, in_t2, in_t3, List.length_map, Bool.not_false, beq_int hm, if_pos hm, encR]
        · simp only [runB, fSeq, fIf, fRet, fAsg, fB, f1, f2, fA, fA0, fL, fV, fC, fTup, fLst, fNext, on1, on2, gN, gT, gsC, gs0, asB, fAnd, fOr, fBnd, fBor, fNot, fVB, fIte, fAndV, fOrV, notD, negD, fO, fO0, asI, fSl, fPar, List.map_cons, List.map_nil, List.length_cons, List.length_nil, List.reduceReplicate, List.cons_append, List.nil_append, List.append_nil, List.getElem?_cons_zero, List.getElem?_cons_succ, Option.join_some, Option.join_none, List.set_cons_zero, List.set_cons_succ, Option.bind_some, Option.bind_none, Option.map_some, Option.map_none, Nat.reduceSub, Nat.reduceAdd, Nat.reduceEqDiff, if_true, if_false, Bool.false_eq_true, reduceIte, Nat.zero_add, fComp, fItems, itemsOf, extOf, wipeE, fEnum, fRng1, fRng2, fSigns, lenD, tupD, lstD, ix0, ix1, ix2, eq_s, ne_s, eq_i, ne_i, add_i, sub_i, in_t2, in_t3, List.length_map, Bool.not_false, bne_int hm, if_neg hm, kp, encR, enc]
theorem F_lbeh {k : Nat} {t : Task} {x : Str} (hk : k ≤ 12) (h : okT k t) : F__law_behind [enc t, .str x] = some (encR (step x t)) := G_lbehind k 24 t x (by omega) h (by omega)
end Tk

namespace Tk
open PySem L2 Tl
/-! ### drawn tasks and deeds -/
def sAt (s : Str) (j : Int) : Str := ⟨#[s.cps.getD j.toNat 0]⟩
theorem ix_str {s : Str} {j : Int} (h0 : 0 ≤ j) (h : j < s.cps.size) (hs : s.length ≤ sizeLine) : ixD (.str s) (.int j) = some (.str (sAt s j)) := by
  have hj : j.toNat < s.cps.toList.length := by
    rw [Array.length_toList]
    omega
  simp only [ixD]
  rw [if_pos hs, atI_nn _ _ h0 (by rw [Array.length_toList]; exact h), List.getElem?_eq_getElem hj]
  simp only [Option.map_some, sAt]
  congr 3
  have hj2 : j.toNat < s.cps.size := by simpa using hj
  simp [Array.getD, hj2]
def many (n : Int) : Int := 1 + n / 64 % 3
def word (n : Int) : Gw := if n % 8 = 3 then .any else if n % 8 = 4 then .thn else .all
def cnt (n : Int) : Int := if word n = .thn then max 2 (many n) else many n
def inMany (n : Int) : Int := 1 + n / 64 % (if n / 1024 % 2 = 0 then 9 else 4)
def tsk (most : Int) : Nat → Int → Task
  | 0, n => .one (sAt "abc" (n / 8 % 3)) (1 + n / 64 % most)
  | k + 1, n => if n % 8 < 2 then .one (sAt "abc" (n / 8 % 3)) (1 + n / 64 % most)
    else if n % 8 = 6 then .wout (sAt "abc" (n / 8 % 3)) (tsk most k (drawn n 1 / 4))
    else if n % 8 = 7 then .wthn (inMany n) (tsk most k (drawn n 2 / 4))
    else .grp (word n) ((List.range (cnt n).toNat).map fun (i : Nat) => tsk most k (drawn n (3 + (i : Int)) / 4))
theorem many_b (n : Int) : 1 ≤ many n ∧ many n ≤ 3 := by
  unfold many
  have h0 := Int.emod_nonneg (n / 64) (show (3 : Int) ≠ 0 by decide)
  have h1 := Int.emod_lt_of_pos (n / 64) (show (0 : Int) < 3 by decide)
  omega
theorem cnt_b (n : Int) : 1 ≤ cnt n ∧ cnt n ≤ 3 ∧ (word n = .thn → 2 ≤ cnt n) := by
  have h := many_b n
  unfold cnt
  split
  · omega
  · rename_i h1
    exact ⟨h.1, h.2, fun z => absurd z h1⟩
theorem inMany_b (n : Int) : 1 ≤ inMany n ∧ inMany n ≤ 9 := by
  unfold inMany
  split
  · have h0 := Int.emod_nonneg (n / 64) (show (9 : Int) ≠ 0 by decide)
    have h1 := Int.emod_lt_of_pos (n / 64) (show (0 : Int) < 9 by decide)
    omega
  · have h0 := Int.emod_nonneg (n / 64) (show (4 : Int) ≠ 0 by decide)
    have h1 := Int.emod_lt_of_pos (n / 64) (show (0 : Int) < 4 by decide)
    omega
theorem mod_b (n m : Int) (h : 0 < m) : 0 ≤ n % m ∧ n % m < m := ⟨Int.emod_nonneg _ (by omega), Int.emod_lt_of_pos _ h⟩
theorem lay_abc {j : Int} (h0 : 0 ≤ j) (h : j < 3) : PyData.canLay0 (.str (sAt "abc" j)) = true := by
  have : j = 0 ∨ j = 1 ∨ j = 2 := by omega
  rcases this with rfl | rfl | rfl <;> decide +kernel
theorem tsk_ok {most : Int} (hm : 0 < most) : ∀ (k : Nat) (n : Int), okT (k + 1) (tsk most k n)
  | 0, n => ⟨lay_abc (mod_b _ _ (by decide)).1 (mod_b _ _ (by decide)).2, by have := mod_b (n / 64) most hm; omega⟩
  | k + 1, n => by
    have hd := lay_abc (mod_b (n / 8) 3 (by decide)).1 (mod_b (n / 8) 3 (by decide)).2
    unfold tsk
    split
    · exact ⟨hd, by have := mod_b (n / 64) most hm; omega⟩
    · split
      · exact ⟨hd, tsk_ok hm k _⟩
      · split
        · exact ⟨(inMany_b n).1, tsk_ok hm k _⟩
        · have hc := cnt_b n
          refine ⟨?_, ⟨fun z => ?_, ?_⟩, fun t ht => ?_⟩
          · intro z
            have := congrArg List.length z
            simp at this
            omega
          · have := hc.2.2 z
            simp
            omega
          · simp
            omega
          · obtain ⟨i, _, rfl⟩ := List.mem_map.mp ht
            exact tsk_ok hm k _
theorem ix_abc (n : Int) : ixD (.str "abc") (.int (n / 8 % 3)) = some (.str (sAt "abc" (n / 8 % 3))) := ix_str (mod_b _ _ (by decide)).1 (mod_b _ _ (by decide)).2 (by decide +kernel)
theorem ix_94 (n : Int) : ixD (.tuple [.int 9, .int 4]) (.int (n / 1024 % 2)) = some (.int (if n / 1024 % 2 = 0 then 9 else 4)) := by
  have h := mod_b (n / 1024) 2 (by decide)
  have : n / 1024 % 2 = 0 ∨ n / 1024 % 2 = 1 := by omega
  rcases this with e | e
  · rw [e]; rfl
  · rw [e]; rfl
theorem lt_i (a b : Int) : ltD (.int a) (.int b) = some (.bool (decide (a < b))) := rfl
theorem rangeL0 (m : Int) : rangeL 0 m = (List.range m.toNat).map fun (k : Nat) => PyData.int (k : Int) := by
  unfold rangeL
  rw [Int.sub_zero]
  congr 1
  funext k
  rw [Int.zero_add]
theorem rng_1 {m : Int} (h0 : -1000000 ≤ m) (h : m ≤ 1000000) : rng1 [.int m] = some ((List.range m.toNat).map fun (k : Nat) => PyData.int (k : Int)) := by
  simp only [rng1]
  rw [if_pos ⟨h0, h⟩, rangeL0]
theorem max_i (a b : Int) : maxD (.int a) (.int b) = some (.int (if b > a then b else a)) := rfl
theorem word_ix {n : Int} (h1 : 2 ≤ n % 8) (h2 : n % 8 < 6) : ixD (.tuple [.str "all", .str "any", .str "then", .str "all"]) (.int (n % 8 - 2)) = some (.str (word n).str) := by
  unfold word
  have : n % 8 = 2 ∨ n % 8 = 3 ∨ n % 8 = 4 ∨ n % 8 = 5 := by omega
  rcases this with e | e | e | e <;> rw [e] <;> rfl
theorem word_eq (n : Int) : ((word n).str == ("then" : Str)) = decide (word n = .thn) := by
  cases h : word n <;> decide +kernel
theorem G_task {most : Int} (hm : 0 < most) : ∀ (k n : Nat) (z : Int), k + 1 ≤ n → G__law_task n 0 [.int z, .int ((k : Int) + 1), .int most] = some (enc (tsk most k z))
  | k, 0, _, h => by omega
  | k, n + 1, z, h => by
    show runB 3 8 (B__law_task (G__law_task n)) _ = _
    have h8 := mod_b z 8 (by decide)
    unfold B__law_task
    cases k with
    | zero =>
      have e1 : ((((0 : Nat) : Int) + 1) == 1) = true := rfl
      simp only [runB, fSeq, fIf, fRet, fAsg, fB, f1, f2, fA, fA0, fL, fV, fC, fTup, fLst, fNext, on1, on2, gN, gT, gsC, gs0, asB, fAnd, fOr, fBnd, fBor, fNot, fVB, fIte, fAndV, fOrV, notD, negD, fO, fO0, asI, fSl, fPar, List.map_cons, List.map_nil, List.length_cons, List.length_nil, List.reduceReplicate, List.cons_append, List.nil_append, List.append_nil, List.getElem?_cons_zero, List.getElem?_cons_succ, Option.join_some, Option.join_none, List.set_cons_zero, List.set_cons_succ, Option.bind_some, Option.bind_none, Option.map_some, Option.map_none, Nat.reduceSub, Nat.reduceAdd, Nat.reduceEqDiff, if_true, if_false, Bool.false_eq_true, reduceIte, Nat.zero_add, fComp, fItems, itemsOf, extOf, wipeE, fEnum, fRng1, fRng2, fSigns, lenD, tupD, lstD, ix0, ix1, ix2, eq_s, ne_s, eq_i, ne_i, add_i, sub_i, in_t2, in_t3, List.length_map, fdv_p (i := z) (j := 8) (by decide), mod_p (i := z / 8) (j := 3) (by decide), ix_abc, mod_p (i := z) (j := 8) (by decide), e1, fdv_p (i := z) (j := 64) (by decide), mod_p (i := z / 64) hm, tsk, enc]
    | succ k =>
      have e1 : ((((k + 1 : Nat) : Int) + 1) == 1) = false := by
        rw [beq_eq_false_iff_ne]
        omega
      have e2 : (((k + 1 : Nat) : Int) + 1) - 1 = (k : Int) + 1 := by omega
      have ih : ∀ z, G__law_task n 0 [.int z, .int ((k : Int) + 1), .int most] = some (enc (tsk most k z)) := fun z => G_task hm k n z (by omega)
      simp only [runB, fSeq, fIf, fRet, fAsg, fB, f1, f2, fA, fA0, fL, fV, fC, fTup, fLst, fNext, on1, on2, gN, gT, gsC, gs0, asB, fAnd, fOr, fBnd, fBor, fNot, fVB, fIte, fAndV, fOrV, notD, negD, fO, fO0, asI, fSl, fPar, List.map_cons, List.map_nil, List.length_cons, List.length_nil, List.reduceReplicate, List.cons_append, List.nil_append, List.append_nil, List.getElem?_cons_zero, List.getElem?_cons_succ, Option.join_some, Option.join_none, List.set_cons_zero, List.set_cons_succ, Option.bind_some, Option.bind_none, Option.map_some, Option.map_none, Nat.reduceSub, Nat.reduceAdd, Nat.reduceEqDiff, if_true, if_false, Bool.false_eq_true, reduceIte, Nat.zero_add, fComp, fItems, itemsOf, extOf, wipeE, fEnum, fRng1, fRng2, fSigns, lenD, tupD, lstD, ix0, ix1, ix2, eq_s, ne_s, eq_i, ne_i, add_i, sub_i, in_t2, in_t3, List.length_map, fdv_p (i := z) (j := 8) (by decide), mod_p (i := z / 8) (j := 3) (by decide), ix_abc, mod_p (i := z) (j := 8) (by decide), e1, lt_i, tsk]
      by_cases c1 : z % 8 < 2
      · simp only [decide_eq_true c1, if_pos c1, runB, fSeq, fIf, fRet, fAsg, fB, f1, f2, fA, fA0, fL, fV, fC, fTup, fLst, fNext, on1, on2, gN, gT, gsC, gs0, asB, fAnd, fOr, fBnd, fBor, fNot, fVB, fIte, fAndV, fOrV, notD, negD, fO, fO0, asI, fSl, fPar, List.map_cons, List.map_nil, List.length_cons, List.length_nil, List.reduceReplicate, List.cons_append, List.nil_append, List.append_nil, List.getElem?_cons_zero, List.getElem?_cons_succ, Option.join_some, Option.join_none, List.set_cons_zero, List.set_cons_succ, Option.bind_some, Option.bind_none, Option.map_some, Option.map_none, Nat.reduceSub, Nat.reduceAdd, Nat.reduceEqDiff, if_true, if_false, Bool.false_eq_true, reduceIte, Nat.zero_add, fComp, fItems, itemsOf, extOf, wipeE, fEnum, fRng1, fRng2, fSigns, lenD, tupD, lstD, ix0, ix1, ix2, eq_s, ne_s, eq_i, ne_i, add_i, sub_i, in_t2, in_t3, List.length_map, fdv_p (i := z) (j := 64) (by decide), mod_p (i := z / 64) hm, enc]
      · simp only [decide_eq_false c1, if_neg c1, runB, fSeq, fIf, fRet, fAsg, fB, f1, f2, fA, fA0, fL, fV, fC, fTup, fLst, fNext, on1, on2, gN, gT, gsC, gs0, asB, fAnd, fOr, fBnd, fBor, fNot, fVB, fIte, fAndV, fOrV, notD, negD, fO, fO0, asI, fSl, fPar, List.map_cons, List.map_nil, List.length_cons, List.length_nil, List.reduceReplicate, List.cons_append, List.nil_append, List.append_nil, List.getElem?_cons_zero, List.getElem?_cons_succ, Option.join_some, Option.join_none, List.set_cons_zero, List.set_cons_succ, Option.bind_some, Option.bind_none, Option.map_some, Option.map_none, Nat.reduceSub, Nat.reduceAdd, Nat.reduceEqDiff, if_true, if_false, Bool.false_eq_true, reduceIte, Nat.zero_add, fComp, fItems, itemsOf, extOf, wipeE, fEnum, fRng1, fRng2, fSigns, lenD, tupD, lstD, ix0, ix1, ix2, eq_s, ne_s, eq_i, ne_i, add_i, sub_i, in_t2, in_t3, List.length_map]
        by_cases c2 : z % 8 = 6
        · simp only [beq_int c2, if_pos c2, runB, fSeq, fIf, fRet, fAsg, fB, f1, f2, fA, fA0, fL, fV, fC, fTup, fLst, fNext, on1, on2, gN, gT, gsC, gs0, asB, fAnd, fOr, fBnd, fBor, fNot, fVB, fIte, fAndV, fOrV, notD, negD, fO, fO0, asI, fSl, fPar, List.map_cons, List.map_nil, List.length_cons, List.length_nil, List.reduceReplicate, List.cons_append, List.nil_append, List.append_nil, List.getElem?_cons_zero, List.getElem?_cons_succ, Option.join_some, Option.join_none, List.set_cons_zero, List.set_cons_succ, Option.bind_some, Option.bind_none, Option.map_some, Option.map_none, Nat.reduceSub, Nat.reduceAdd, Nat.reduceEqDiff, if_true, if_false, Bool.false_eq_true, reduceIte, Nat.zero_add, fComp, fItems, itemsOf, extOf, wipeE, fEnum, fRng1, fRng2, fSigns, lenD, tupD, lstD, ix0, ix1, ix2, eq_s, ne_s, eq_i, ne_i, add_i, sub_i, in_t2, in_t3, List.length_map, F_drawn, fdv_p (i := drawn z 1) (j := 4) (by decide), e2, ih, enc]
        · simp only [bne_int c2, if_neg c2, runB, fSeq, fIf, fRet, fAsg, fB, f1, f2, fA, fA0, fL, fV, fC, fTup, fLst, fNext, on1, on2, gN, gT, gsC, gs0, asB, fAnd, fOr, fBnd, fBor, fNot, fVB, fIte, fAndV, fOrV, notD, negD, fO, fO0, asI, fSl, fPar, List.map_cons, List.map_nil, List.length_cons, List.length_nil, List.reduceReplicate, List.cons_append, List.nil_append, List.append_nil, List.getElem?_cons_zero, List.getElem?_cons_succ, Option.join_some, Option.join_none, List.set_cons_zero, List.set_cons_succ, Option.bind_some, Option.bind_none, Option.map_some, Option.map_none, Nat.reduceSub, Nat.reduceAdd, Nat.reduceEqDiff, if_true, if_false, Bool.false_eq_true, reduceIte, Nat.zero_add, fComp, fItems, itemsOf, extOf, wipeE, fEnum, fRng1, fRng2, fSigns, lenD, tupD, lstD, ix0, ix1, ix2, eq_s, ne_s, eq_i, ne_i, add_i, sub_i, in_t2, in_t3, List.length_map]
          by_cases c3 : z % 8 = 7
          · have hp : (0 : Int) < (if z / 1024 % 2 = 0 then 9 else 4) := by split <;> decide
            simp only [beq_int c3, if_pos c3, runB, fSeq, fIf, fRet, fAsg, fB, f1, f2, fA, fA0, fL, fV, fC, fTup, fLst, fNext, on1, on2, gN, gT, gsC, gs0, asB, fAnd, fOr, fBnd, fBor, fNot, fVB, fIte, fAndV, fOrV, notD, negD, fO, fO0, asI, fSl, fPar, List.map_cons, List.map_nil, List.length_cons, List.length_nil, List.reduceReplicate, List.cons_append, List.nil_append, List.append_nil, List.getElem?_cons_zero, List.getElem?_cons_succ, Option.join_some, Option.join_none, List.set_cons_zero, List.set_cons_succ, Option.bind_some, Option.bind_none, Option.map_some, Option.map_none, Nat.reduceSub, Nat.reduceAdd, Nat.reduceEqDiff, if_true, if_false, Bool.false_eq_true, reduceIte, Nat.zero_add, fComp, fItems, itemsOf, extOf, wipeE, fEnum, fRng1, fRng2, fSigns, lenD, tupD, lstD, ix0, ix1, ix2, eq_s, ne_s, eq_i, ne_i, add_i, sub_i, in_t2, in_t3, List.length_map, fdv_p (i := z) (j := 64) (by decide), fdv_p (i := z) (j := 1024) (by decide), mod_p (i := z / 1024) (j := 2) (by decide), ix_94, mod_p (i := z / 64) hp, F_drawn, fdv_p (i := drawn z 2) (j := 4) (by decide), e2, ih, enc, inMany]
          · have hw := word_ix (n := z) (by omega) (by omega)
            have hc := cnt_b z
            have comp : ∀ (ρ : En), ρ[0]? = some (some (.int z)) → ρ[1]? = some (some (.int (((k + 1 : Nat) : Int) + 1))) → ρ[2]? = some (some (.int most)) → ρ.length = 8 → compL (gN 7) fYes (fL (G__law_task n 0) (fA (f2 fdvD (fL F__law_drawn (fA (fV 0) (fA (f2 addD (fC (.int 3)) (fV 7)) fA0))) (fC (.int 4))) (fA (f2 subD (fV 1) (fC (.int 1))) (fA (fV 2) fA0))))
                ρ ((List.range (cnt z).toNat).map fun (k : Nat) => PyData.int (k : Int)) = some ((List.range (cnt z).toNat).map fun (i : Nat) => enc (tsk most k (drawn z (3 + (i : Int)) / 4))) := fun ρ r0 r1 r2 rl => compL_map fun i _ => by
              have q7 : (ρ.set 7 (some (.int (i : Int))))[7]? = some (some (.int (i : Int))) := List.getElem?_set_self (by omega)
              have q0 : (ρ.set 7 (some (.int (i : Int))))[0]? = some (some (.int z)) := by rw [List.getElem?_set_ne (by decide)]; exact r0
              have q1 : (ρ.set 7 (some (.int (i : Int))))[1]? = some (some (.int (((k + 1 : Nat) : Int) + 1))) := by rw [List.getElem?_set_ne (by decide)]; exact r1
              have q2 : (ρ.set 7 (some (.int (i : Int))))[2]? = some (some (.int most)) := by rw [List.getElem?_set_ne (by decide)]; exact r2
              simp only [fL, fA, fA0, f2, fV, fC, q7, q0, q1, q2, Option.join_some, Option.bind_some, add_i, sub_i, F_drawn, fdv_p (i := drawn z (3 + (i : Int))) (j := 4) (by decide), e2, ih]
            simp only [bne_int c3, if_neg c3, runB, fSeq, fIf, fRet, fAsg, fB, f1, f2, fA, fA0, fL, fV, fC, fTup, fLst, fNext, on1, on2, gN, gT, gsC, gs0, asB, fAnd, fOr, fBnd, fBor, fNot, fVB, fIte, fAndV, fOrV, notD, negD, fO, fO0, asI, fSl, fPar, List.map_cons, List.map_nil, List.length_cons, List.length_nil, List.reduceReplicate, List.cons_append, List.nil_append, List.append_nil, List.getElem?_cons_zero, List.getElem?_cons_succ, Option.join_some, Option.join_none, List.set_cons_zero, List.set_cons_succ, Option.bind_some, Option.bind_none, Option.map_some, Option.map_none, Nat.reduceSub, Nat.reduceAdd, Nat.reduceEqDiff, if_true, if_false, Bool.false_eq_true, reduceIte, Nat.zero_add, fComp, fItems, itemsOf, extOf, wipeE, fEnum, fRng1, fRng2, fSigns, lenD, tupD, lstD, ix0, ix1, ix2, eq_s, ne_s, eq_i, ne_i, add_i, sub_i, in_t2, in_t3, List.length_map, fdv_p (i := z) (j := 64) (by decide), mod_p (i := z / 64) (j := 3) (by decide), hw, word_eq]
            by_cases c4 : word z = .thn
            · have ec : (if 1 + z / 64 % 3 > 2 then 1 + z / 64 % 3 else 2) = cnt z := by
                unfold cnt many
                rw [if_pos c4]
                omega
              simp only [decide_eq_true c4, runB, fSeq, fIf, fRet, fAsg, fB, f1, f2, fA, fA0, fL, fV, fC, fTup, fLst, fNext, on1, on2, gN, gT, gsC, gs0, asB, fAnd, fOr, fBnd, fBor, fNot, fVB, fIte, fAndV, fOrV, notD, negD, fO, fO0, asI, fSl, fPar, List.map_cons, List.map_nil, List.length_cons, List.length_nil, List.reduceReplicate, List.cons_append, List.nil_append, List.append_nil, List.getElem?_cons_zero, List.getElem?_cons_succ, Option.join_some, Option.join_none, List.set_cons_zero, List.set_cons_succ, Option.bind_some, Option.bind_none, Option.map_some, Option.map_none, Nat.reduceSub, Nat.reduceAdd, Nat.reduceEqDiff, if_true, if_false, Bool.false_eq_true, reduceIte, Nat.zero_add, fComp, fItems, itemsOf, extOf, wipeE, fEnum, fRng1, fRng2, fSigns, lenD, tupD, lstD, ix0, ix1, ix2, eq_s, ne_s, eq_i, ne_i, add_i, sub_i, in_t2, in_t3, List.length_map, max_i, ec, rng_1 (m := cnt z) (by omega) (by omega)]
              rw [comp _ rfl rfl rfl rfl]
              simp only [runB, fSeq, fIf, fRet, fAsg, fB, f1, f2, fA, fA0, fL, fV, fC, fTup, fLst, fNext, on1, on2, gN, gT, gsC, gs0, asB, fAnd, fOr, fBnd, fBor, fNot, fVB, fIte, fAndV, fOrV, notD, negD, fO, fO0, asI, fSl, fPar, List.map_cons, List.map_nil, List.length_cons, List.length_nil, List.reduceReplicate, List.cons_append, List.nil_append, List.append_nil, List.getElem?_cons_zero, List.getElem?_cons_succ, Option.join_some, Option.join_none, List.set_cons_zero, List.set_cons_succ, Option.bind_some, Option.bind_none, Option.map_some, Option.map_none, Nat.reduceSub, Nat.reduceAdd, Nat.reduceEqDiff, if_true, if_false, Bool.false_eq_true, reduceIte, Nat.zero_add, fComp, fItems, itemsOf, extOf, wipeE, fEnum, fRng1, fRng2, fSigns, lenD, tupD, lstD, ix0, ix1, ix2, eq_s, ne_s, eq_i, ne_i, add_i, sub_i, in_t2, in_t3, List.length_map, enc, encs_map, List.map_map]
              rfl
            · have ec : 1 + z / 64 % 3 = cnt z := by
                unfold cnt many
                rw [if_neg c4]
              simp only [decide_eq_false c4, runB, fSeq, fIf, fRet, fAsg, fB, f1, f2, fA, fA0, fL, fV, fC, fTup, fLst, fNext, on1, on2, gN, gT, gsC, gs0, asB, fAnd, fOr, fBnd, fBor, fNot, fVB, fIte, fAndV, fOrV, notD, negD, fO, fO0, asI, fSl, fPar, List.map_cons, List.map_nil, List.length_cons, List.length_nil, List.reduceReplicate, List.cons_append, List.nil_append, List.append_nil, List.getElem?_cons_zero, List.getElem?_cons_succ, Option.join_some, Option.join_none, List.set_cons_zero, List.set_cons_succ, Option.bind_some, Option.bind_none, Option.map_some, Option.map_none, Nat.reduceSub, Nat.reduceAdd, Nat.reduceEqDiff, if_true, if_false, Bool.false_eq_true, reduceIte, Nat.zero_add, fComp, fItems, itemsOf, extOf, wipeE, fEnum, fRng1, fRng2, fSigns, lenD, tupD, lstD, ix0, ix1, ix2, eq_s, ne_s, eq_i, ne_i, add_i, sub_i, in_t2, in_t3, List.length_map, ec, rng_1 (m := cnt z) (by omega) (by omega)]
              rw [comp _ rfl rfl rfl rfl]
              simp only [runB, fSeq, fIf, fRet, fAsg, fB, f1, f2, fA, fA0, fL, fV, fC, fTup, fLst, fNext, on1, on2, gN, gT, gsC, gs0, asB, fAnd, fOr, fBnd, fBor, fNot, fVB, fIte, fAndV, fOrV, notD, negD, fO, fO0, asI, fSl, fPar, List.map_cons, List.map_nil, List.length_cons, List.length_nil, List.reduceReplicate, List.cons_append, List.nil_append, List.append_nil, List.getElem?_cons_zero, List.getElem?_cons_succ, Option.join_some, Option.join_none, List.set_cons_zero, List.set_cons_succ, Option.bind_some, Option.bind_none, Option.map_some, Option.map_none, Nat.reduceSub, Nat.reduceAdd, Nat.reduceEqDiff, if_true, if_false, Bool.false_eq_true, reduceIte, Nat.zero_add, fComp, fItems, itemsOf, extOf, wipeE, fEnum, fRng1, fRng2, fSigns, lenD, tupD, lstD, ix0, ix1, ix2, eq_s, ne_s, eq_i, ne_i, add_i, sub_i, in_t2, in_t3, List.length_map, enc, encs_map, List.map_map]
              rfl
theorem F_task {most : Int} (hm : 0 < most) {k : Nat} (hk : k ≤ 20) (z : Int) : F__law_task [.int z, .int ((k : Int) + 1), .int most] = some (enc (tsk most k z)) := G_task hm k 24 z (by omega)
/-! deeds -/
def dds (n most : Int) : List Str := (List.range (n % (most + 1)).toNat).map fun (i : Nat) => sAt "abcabcd" (drawn n (20 + (i : Int)) / 4 % 7)
theorem F_dds {n most : Int} (hm : 0 ≤ most) (hm2 : most ≤ 100) : F__law_deeds [.int n, .int most] = some (.tuple (sts (dds n most))) := by
  have hb := mod_b n (most + 1) (by omega)
  have comp : compL (gN 2) fYes (f2 ixD (fC (.str "abcabcd")) (f2 modD (f2 fdvD (fL F__law_drawn (fA (fV 0) (fA (f2 addD (fC (.int 20)) (fV 2)) fA0))) (fC (.int 4))) (fC (.int 7)))) [some (.int n), some (.int most), none] ((List.range (n % (most + 1)).toNat).map fun (k : Nat) => PyData.int (k : Int)) = some ((List.range (n % (most + 1)).toNat).map fun (i : Nat) => PyData.str (sAt "abcabcd" (drawn n (20 + (i : Int)) / 4 % 7))) := compL_map fun i _ => by
    have h7 := mod_b (drawn n (20 + (i : Int)) / 4) 7 (by decide)
    have hx : ixD (.str "abcabcd") (.int (drawn n (20 + (i : Int)) / 4 % 7)) = some (.str (sAt "abcabcd" (drawn n (20 + (i : Int)) / 4 % 7))) := ix_str h7.1 h7.2 (by decide +kernel)
    simp only [runB, fSeq, fIf, fRet, fAsg, fB, f1, f2, fA, fA0, fL, fV, fC, fTup, fLst, fNext, on1, on2, gN, gT, gsC, gs0, asB, fAnd, fOr, fBnd, fBor, fNot, fVB, fIte, fAndV, fOrV, notD, negD, fO, fO0, asI, fSl, fPar, List.map_cons, List.map_nil, List.length_cons, List.length_nil, List.reduceReplicate, List.cons_append, List.nil_append, List.append_nil, List.getElem?_cons_zero, List.getElem?_cons_succ, Option.join_some, Option.join_none, List.set_cons_zero, List.set_cons_succ, Option.bind_some, Option.bind_none, Option.map_some, Option.map_none, Nat.reduceSub, Nat.reduceAdd, Nat.reduceEqDiff, if_true, if_false, Bool.false_eq_true, reduceIte, Nat.zero_add, fComp, fItems, itemsOf, extOf, wipeE, fEnum, fRng1, fRng2, fSigns, lenD, tupD, lstD, ix0, ix1, ix2, eq_s, ne_s, eq_i, ne_i, add_i, sub_i, in_t2, in_t3, List.length_map, F_drawn, fdv_p (i := drawn n (20 + (i : Int))) (j := 4) (by decide), mod_p (j := 7) (by decide), hx]
  unfold F__law_deeds B__law_deeds
  simp only [runB, fSeq, fIf, fRet, fAsg, fB, f1, f2, fA, fA0, fL, fV, fC, fTup, fLst, fNext, on1, on2, gN, gT, gsC, gs0, asB, fAnd, fOr, fBnd, fBor, fNot, fVB, fIte, fAndV, fOrV, notD, negD, fO, fO0, asI, fSl, fPar, List.map_cons, List.map_nil, List.length_cons, List.length_nil, List.reduceReplicate, List.cons_append, List.nil_append, List.append_nil, List.getElem?_cons_zero, List.getElem?_cons_succ, Option.join_some, Option.join_none, List.set_cons_zero, List.set_cons_succ, Option.bind_some, Option.bind_none, Option.map_some, Option.map_none, Nat.reduceSub, Nat.reduceAdd, Nat.reduceEqDiff, if_true, if_false, Bool.false_eq_true, reduceIte, Nat.zero_add, fComp, fItems, itemsOf, extOf, wipeE, fEnum, fRng1, fRng2, fSigns, lenD, tupD, lstD, ix0, ix1, ix2, eq_s, ne_s, eq_i, ne_i, add_i, sub_i, in_t2, in_t3, List.length_map, mod_p (i := n) (j := most + 1) (by omega), rng_1 (m := n % (most + 1)) (by omega) (by omega), comp, sts, dds, List.map_map]
  rfl
end Tk

namespace Tk
open PySem L2 Tl
theorem eqP_self {d : PyData} (h : SeqAt.shaped d = true) : eqP d d = some (.bool true) := by rw [eqP_of h h, SeqAt.eqv_refl d (SeqAt.canLay_of_shaped h)]
theorem neP_self {d : PyData} (h : SeqAt.shaped d = true) : neP d d = some (.bool false) := by rw [neP_of h h, SeqAt.eqv_refl d (SeqAt.canLay_of_shaped h)]; rfl
theorem encP_shaped {n : Nat} {p : Res × Option Int} (hn : n ≤ 30) (h : okR n p.1) : SeqAt.shaped (encP p) = true := by
  refine shaped_of ?_ ?_
  · have := encR_lay h
    cases p with
    | mk r o => cases o <;> simp [encP, encO, PyData.canLay0, PyData.canLayAll0] <;> exact this
  · have := encR_depth h
    cases p with
    | mk r o => cases o <;> simp only [encP, encO, PyData.depth, PyData.depthAll] <;> simp only at this <;> omega
theorem tell_ok {k : Nat} : ∀ (xs : List Str) (n : Nat) (t : Task), okT k t → okR k (tell n t xs).1
  | [], _, _, h => h
  | x :: xs, n, t, h => by
    have ho := step_ok k t x h
    simp only [tell]
    cases e : step x t with
    | done => trivial
    | failed => trivial
    | left u =>
      rw [e] at ho
      exact tell_ok xs (n + 1) u ho
theorem tell_app : ∀ (xs ys : List Str) (n : Nat) (t : Task), tell n t (xs ++ ys) = match tell n t xs with
    | (.left h, none) => tell (n + xs.length) h ys
    | p => p
  | [], ys, n, t => by simp [tell]
  | x :: xs, ys, n, t => by
    simp only [List.cons_append, tell]
    cases e : step x t with
    | done => rfl
    | failed => rfl
    | left u =>
      simp only
      rw [tell_app xs ys (n + 1) u]
      simp only [List.length_cons]
      rw [show n + 1 + xs.length = n + (xs.length + 1) by omega]
theorem cut_to {α : Type} (xs : List α) (k : Nat) : cutL xs none (some (k : Int)) = xs.take k := by
  unfold cutL
  rw [HT.sIx_none, HT.sIx_nat]
  simp
theorem cut_from {α : Type} (xs : List α) (k : Nat) : cutL xs (some (k : Int)) none = xs.drop k := by
  unfold cutL
  rw [HT.sIx_none, HT.sIx_nat]
  by_cases h : k ≤ xs.length
  · rw [Nat.min_eq_left h]
    exact List.take_of_length_le (by simp)
  · rw [Nat.min_eq_right (by omega)]
    simp
    omega
theorem sts_app (xs ys : List Str) : sts (xs ++ ys) = sts xs ++ sts ys := by simp [sts]
theorem sts_len (xs : List Str) : (sts xs).length = xs.length := by simp [sts]
theorem over_str (s : Str) : isStrD (.str s) = true := rfl
theorem nn_none : isNone .none = true := rfl
theorem nn_int (i : Int) : isNone (.int i) = false := rfl
theorem nn_str (i : Str) : isNone (.str i) = false := rfl
theorem nn_tup (i : List PyData) : isNone (.tuple i) = false := rfl
theorem int_t : intD (.bool true) = some (.int 1) := rfl
theorem int_f : intD (.bool false) = some (.int 0) := rfl
end Tk

namespace Tk
open PySem L2 Tl
/-! ### decided by a whole row: (true: done, false: failed), the deed's number -/
abbrev Dec := Option (Bool × Nat)
def sh (k : Nat) (o : Dec) : Dec := o.map fun p => (p.1, p.2 + k)
def dec (t : Task) : List Str → Dec
  | [] => none
  | x :: xs => match step x t with
    | .done => some (true, 1)
    | .failed => some (false, 1)
    | .left u => sh 1 (dec u xs)
def ofR (xs : List Str) : Res → Dec
  | .done => some (true, 1)
  | .failed => some (false, 1)
  | .left u => sh 1 (dec u xs)
theorem dec_cons (t : Task) (x : Str) (xs : List Str) : dec t (x :: xs) = ofR xs (step x t) := by
  rw [dec]
  cases step x t <;> rfl
theorem sh_sh (a b : Nat) (o : Dec) : sh a (sh b o) = sh (b + a) o := by
  cases o with
  | none => rfl
  | some p => simp [sh, Nat.add_assoc]
theorem sh_none (a : Nat) : sh a none = none := rfl
theorem sh_some (a : Nat) (p : Bool × Nat) : sh a (some p) = some (p.1, p.2 + a) := rfl
theorem sh_0 (o : Dec) : sh 0 o = o := by
  cases o with
  | none => rfl
  | some p => rfl
/-- at least one deed -/
def pos1 : Dec → Prop
  | none => True
  | some p => 1 ≤ p.2
theorem dec_pos : ∀ (xs : List Str) (t : Task), pos1 (dec t xs)
  | [], _ => trivial
  | x :: xs, t => by
    rw [dec_cons]
    cases step x t with
    | done => exact Nat.le_refl 1
    | failed => exact Nat.le_refl 1
    | left u =>
      simp only [ofR]
      cases dec u xs with
      | none => trivial
      | some p => exact Nat.le_add_left 1 p.2
theorem dec_le : ∀ (xs : List Str) (t : Task) (b : Bool) (p : Nat), dec t xs = some (b, p) → p ≤ xs.length
  | [], _, _, _, h => by cases h
  | x :: xs, t, b, p, h => by
    rw [dec_cons] at h
    cases e : step x t with
    | done => rw [e] at h; cases h; simp
    | failed => rw [e] at h; cases h; simp
    | left u =>
      rw [e] at h
      simp only [ofR] at h
      cases e2 : dec u xs with
      | none => rw [e2] at h; cases h
      | some q =>
        rw [e2] at h
        cases h
        have := dec_le xs u q.1 q.2 (by rw [e2])
        simp
        omega
/-- by told -/
theorem tell_dec : ∀ (xs : List Str) (n : Nat) (t : Task), (match dec t xs with
    | none => ∃ u, tell n t xs = (.left u, none)
    | some (true, p) => tell n t xs = (.done, some ((p : Int) + n))
    | some (false, p) => tell n t xs = (.failed, some ((p : Int) + n)))
  | [], n, t => ⟨t, rfl⟩
  | x :: xs, n, t => by
    rw [dec_cons]
    simp only [tell]
    cases e : step x t with
    | done =>
      show (Res.done, some ((n : Int) + 1)) = (Res.done, some (((1 : Nat) : Int) + n))
      rw [show (n : Int) + 1 = ((1 : Nat) : Int) + n by omega]
    | failed =>
      show (Res.failed, some ((n : Int) + 1)) = (Res.failed, some (((1 : Nat) : Int) + n))
      rw [show (n : Int) + 1 = ((1 : Nat) : Int) + n by omega]
    | left u =>
      have ih := tell_dec xs (n + 1) u
      simp only [ofR]
      cases e2 : dec u xs with
      | none =>
        rw [e2] at ih
        exact ih
      | some q =>
        rw [e2] at ih
        obtain ⟨b, p⟩ := q
        cases b with
        | true =>
          simp only [sh_some]
          have ih' : tell (n + 1) u xs = (.done, some ((p : Int) + ((n + 1 : Nat) : Int))) := ih
          rw [ih', show (p : Int) + ((n + 1 : Nat) : Int) = ((p + 1 : Nat) : Int) + n by omega]
        | false =>
          simp only [sh_some]
          have ih' : tell (n + 1) u xs = (.failed, some ((p : Int) + ((n + 1 : Nat) : Int))) := ih
          rw [ih', show (p : Int) + ((n + 1 : Nat) : Int) = ((p + 1 : Nat) : Int) + n by omega]
/-! ### two together: e ends the group, the other has to be all of them -/
def comb (e : Bool) : Dec → Dec → Dec
  | none, none => none
  | none, some (c, q) => if c = e then some (c, q) else none
  | some (b, p), none => if b = e then some (b, p) else none
  | some (b, p), some (c, q) => if b = e then (if c = e then some (e, min p q) else some (e, p)) else if c = e then some (e, q) else some (b, max p q)
theorem comb_comm (e : Bool) (a b : Dec) : comb e a b = comb e b a := by
  cases a with
  | none => cases b <;> rfl
  | some p =>
    cases b with
    | none => rfl
    | some q =>
      obtain ⟨b, p⟩ := p
      obtain ⟨c, q⟩ := q
      cases b <;> cases c <;> cases e <;> simp [comb, Nat.min_comm, Nat.max_comm]
theorem comb_assoc (e : Bool) (a b c : Dec) : comb e (comb e a b) c = comb e a (comb e b c) := by
  cases a with
  | none =>
    cases b with
    | none =>
      cases c with
      | none => rfl
      | some r => obtain ⟨z, r⟩ := r; cases z <;> cases e <;> simp [comb]
    | some q =>
      obtain ⟨y, q⟩ := q
      cases c with
      | none => cases y <;> cases e <;> simp [comb]
      | some r => obtain ⟨z, r⟩ := r; cases y <;> cases z <;> cases e <;> simp [comb]
  | some p =>
    obtain ⟨x, p⟩ := p
    cases b with
    | none =>
      cases c with
      | none => cases x <;> cases e <;> simp [comb]
      | some r => obtain ⟨z, r⟩ := r; cases x <;> cases z <;> cases e <;> simp [comb]
    | some q =>
      obtain ⟨y, q⟩ := q
      cases c with
      | none => cases x <;> cases y <;> cases e <;> simp [comb]
      | some r => obtain ⟨z, r⟩ := r; cases x <;> cases y <;> cases z <;> cases e <;> simp [comb, Nat.min_assoc, Nat.max_assoc]
theorem comb_self (e : Bool) (a : Dec) : comb e a a = a := by
  cases a with
  | none => rfl
  | some p => obtain ⟨x, p⟩ := p; cases x <;> cases e <;> simp [comb]
theorem comb_sh (e : Bool) (k : Nat) (a b : Dec) : comb e (sh k a) (sh k b) = sh k (comb e a b) := by
  cases a with
  | none =>
    cases b with
    | none => rfl
    | some q => obtain ⟨y, q⟩ := q; cases y <;> cases e <;> simp [comb, sh]
  | some p =>
    obtain ⟨x, p⟩ := p
    cases b with
    | none => cases x <;> cases e <;> simp [comb, sh]
    | some q =>
      obtain ⟨y, q⟩ := q
      cases x <;> cases y <;> cases e <;> simp [comb, sh] <;> omega
/-- an end at the first deed ends it -/
theorem comb_end (e : Bool) (a : Dec) (h : pos1 a) : comb e (some (e, 1)) a = some (e, 1) := by
  cases a with
  | none => simp [comb]
  | some p =>
    obtain ⟨x, p⟩ := p
    have h' : 1 ≤ p := h
    cases x <;> cases e <;> simp [comb] <;> omega
/-- one that was fulfilled by the first deed is nothing any more -/
theorem comb_one (e : Bool) (a : Dec) (h : pos1 a) : comb e (some (!e, 1)) a = a := by
  cases a with
  | none => cases e <;> simp [comb]
  | some p =>
    obtain ⟨x, p⟩ := p
    have h' : 1 ≤ p := h
    cases x <;> cases e <;> simp [comb] <;> omega
/-- a whole group -/
def gr (e : Bool) : List Dec → Dec
  | [] => some (!e, 1)
  | [a] => a
  | a :: r => comb e a (gr e r)
theorem gr_cons (e : Bool) (a : Dec) (r : List Dec) (h : r ≠ []) : gr e (a :: r) = comb e a (gr e r) := by
  cases r with
  | nil => exact absurd rfl h
  | cons b r => rfl
theorem gr_pos (e : Bool) : ∀ l : List Dec, (∀ a ∈ l, pos1 a) → pos1 (gr e l)
  | [], _ => Nat.le_refl 1
  | [a], h => h a List.mem_cons_self
  | a :: b :: r, h => by
    rw [gr_cons e a (b :: r) (by simp)]
    have h1 := h a List.mem_cons_self
    have h2 := gr_pos e (b :: r) fun c hc => h c (List.mem_cons_of_mem _ hc)
    cases a with
    | none =>
      cases z : gr e (b :: r) with
      | none => trivial
      | some q =>
        rw [z] at h2
        obtain ⟨y, q⟩ := q
        have h2' : 1 ≤ q := h2
        cases y <;> cases e <;> simp [comb, pos1] <;> omega
    | some p =>
      obtain ⟨x, p⟩ := p
      have h1' : 1 ≤ p := h1
      cases z : gr e (b :: r) with
      | none => cases x <;> cases e <;> simp [comb, pos1] <;> omega
      | some q =>
        rw [z] at h2
        obtain ⟨y, q⟩ := q
        have h2' : 1 ≤ q := h2
        cases x <;> cases y <;> cases e <;> simp [comb, pos1] <;> omega
theorem gr_sh (e : Bool) (k : Nat) : ∀ l : List Dec, l ≠ [] → gr e (l.map (sh k)) = sh k (gr e l)
  | [], h => absurd rfl h
  | [a], _ => rfl
  | a :: b :: r, _ => by
    rw [gr_cons e a (b :: r) (by simp), List.map_cons, gr_cons e (sh k a) _ (by simp), gr_sh e k (b :: r) (by simp), comb_sh]
def isEnd (e : Bool) : Res → Bool
  | .done => e
  | .failed => !e
  | .left _ => false
theorem gr_step (e : Bool) (xs : List Str) : ∀ rs : List Res, rs ≠ [] → gr e (rs.map (ofR xs)) = if rs.any (isEnd e) then some (e, 1) else match Res.lefts rs with
    | [] => some (!e, 1)
    | l => sh 1 (gr e (l.map (dec · xs)))
  | [], h => absurd rfl h
  | [r], _ => by
    cases r with
    | done => cases e <;> simp [gr, ofR, isEnd, Res.lefts]
    | failed => cases e <;> simp [gr, ofR, isEnd, Res.lefts]
    | left u => simp [gr, ofR, isEnd, Res.lefts]
  | r :: q :: rs, _ => by
    have ih := gr_step e xs (q :: rs) (by simp)
    have hp : pos1 (gr e ((q :: rs).map (ofR xs))) := gr_pos e _ fun a ha => by
      obtain ⟨z, _, rfl⟩ := List.mem_map.mp ha
      cases z with
      | done => exact Nat.le_refl 1
      | failed => exact Nat.le_refl 1
      | left u =>
        simp only [ofR]
        cases dec u xs with
        | none => trivial
        | some p => exact Nat.le_add_left 1 p.2
    rw [List.map_cons, gr_cons e _ _ (by simp)]
    have hr : r = .done ∨ r = .failed ∨ ∃ u, r = .left u := by
      cases r with
      | done => exact .inl rfl
      | failed => exact .inr (.inl rfl)
      | left u => exact .inr (.inr ⟨u, rfl⟩)
    rcases hr with rfl | rfl | ⟨u, rfl⟩
    · cases e with
      | true => rw [show ofR xs Res.done = some (true, 1) from rfl, comb_end true _ hp]; simp [isEnd]
      | false => rw [show ofR xs Res.done = some (!false, 1) from rfl, comb_one false _ hp, ih]; simp [isEnd, Res.lefts]
    · cases e with
      | false => rw [show ofR xs Res.failed = some (false, 1) from rfl, comb_end false _ hp]; simp [isEnd]
      | true => rw [show ofR xs Res.failed = some (!true, 1) from rfl, comb_one true _ hp, ih]; simp [isEnd, Res.lefts]
    · rw [ih, show (Res.left u :: q :: rs).any (isEnd e) = (q :: rs).any (isEnd e) from rfl]
      rw [show Res.lefts (Res.left u :: q :: rs) = u :: Res.lefts (q :: rs) from rfl]
      cases hany : (q :: rs).any (isEnd e) with
      | true =>
        simp only [if_true]
        rw [comb_comm, comb_end e _ ?_]
        simp only [ofR]
        cases dec u xs with
        | none => trivial
        | some p => exact Nat.le_add_left 1 p.2
      | false =>
        simp only [Bool.false_eq_true, if_false]
        cases hl : Res.lefts (q :: rs) with
        | nil =>
          simp only
          rw [comb_comm, comb_one e _ ?_]
          · rfl
          · simp only [ofR]
            cases dec u xs with
            | none => trivial
            | some p => exact Nat.le_add_left 1 p.2
        | cons v l =>
          show comb e (sh 1 (dec u xs)) (sh 1 (gr e ((v :: l).map (dec · xs)))) = sh 1 (comb e (dec u xs) (gr e ((v :: l).map (dec · xs))))
          rw [comb_sh]
/-- the word's end -/
def Gw.end : Gw → Bool
  | .any => true
  | _ => false
theorem any_failed (rs : List Res) : rs.any (isEnd false) = rs.any Res.isFailed := by
  congr 1
  funext r
  cases r <;> rfl
theorem any_done (rs : List Res) : rs.any (isEnd true) = rs.any Res.isDone := by
  congr 1
  funext r
  cases r <;> rfl
theorem dec_mkG {w : Gw} {l : List Task} {xs : List Str} (h : l ≠ []) (ih : dec (.grp w l) xs = gr w.end (l.map (dec · xs))) : dec (mkG w l) xs = gr w.end (l.map (dec · xs)) := by
  match l, h, ih with
  | [t], _, _ => rfl
  | t :: u :: r, _, ih => exact ih
theorem dec_all : ∀ (xs : List Str) (ts : List Task), ts ≠ [] → dec (.grp .all ts) xs = gr false (ts.map (dec · xs))
  | [], ts, h => by
    have : ∀ l : List Task, l ≠ [] → gr false (l.map (dec · [])) = none := by
      intro l
      induction l with
      | nil => intro h; exact absurd rfl h
      | cons t r ih =>
        intro _
        cases r with
        | nil => rfl
        | cons u r => rw [List.map_cons, gr_cons _ _ _ (by simp), ih (by simp)]; rfl
    rw [this ts h]
    rfl
  | x :: xs, ts, h => by
    have e1 : ts.map (dec · (x :: xs)) = (steps x ts).map (ofR xs) := by
      rw [steps_map, List.map_map]
      exact List.map_congr_left fun t _ => dec_cons t x xs
    rw [e1, gr_step false xs (steps x ts) (by rw [steps_map]; simpa using h), dec_cons, any_failed]
    simp only [step, endAll]
    split
    · rfl
    · split
      · rename_i hl
        first
          | rfl
          | (rw [hl]; rfl)
      · rename_i hl
        simp only [ofR]
        cases e : Res.lefts (steps x ts) with
        | nil => exact absurd e hl
        | cons t l =>
          rw [dec_mkG (w := .all) (by simp) (dec_all xs (t :: l) (by simp))]
          rfl
theorem dec_any : ∀ (xs : List Str) (ts : List Task), ts ≠ [] → dec (.grp .any ts) xs = gr true (ts.map (dec · xs))
  | [], ts, h => by
    have : ∀ l : List Task, l ≠ [] → gr true (l.map (dec · [])) = none := by
      intro l
      induction l with
      | nil => intro h; exact absurd rfl h
      | cons t r ih =>
        intro _
        cases r with
        | nil => rfl
        | cons u r => rw [List.map_cons, gr_cons _ _ _ (by simp), ih (by simp)]; rfl
    rw [this ts h]
    rfl
  | x :: xs, ts, h => by
    have e1 : ts.map (dec · (x :: xs)) = (steps x ts).map (ofR xs) := by
      rw [steps_map, List.map_map]
      exact List.map_congr_left fun t _ => dec_cons t x xs
    rw [e1, gr_step true xs (steps x ts) (by rw [steps_map]; simpa using h), dec_cons, any_done]
    simp only [step, endAny]
    split
    · rfl
    · split
      · rename_i hl
        first
          | rfl
          | (rw [hl]; rfl)
      · rename_i hl
        simp only [ofR]
        cases e : Res.lefts (steps x ts) with
        | nil => exact absurd e hl
        | cons t l =>
          rw [dec_mkG (w := .any) (by simp) (dec_any xs (t :: l) (by simp))]
          rfl
/-- then: the first, and from there on the others -/
theorem dec_thn : ∀ (xs : List Str) (t : Task) (r : List Task), dec (.grp .thn (t :: r)) xs = match dec t xs with
    | none => none
    | some (false, p) => some (false, p)
    | some (true, p) => match r with
      | [] => some (true, p)
      | l => sh p (dec (mkG .thn l) (xs.drop p))
  | [], t, r => rfl
  | x :: xs, t, r => by
    rw [dec_cons, dec_cons]
    simp only [step]
    cases e : step x t with
    | failed => rfl
    | done =>
      cases r with
      | nil => rfl
      | cons u l => simp [endThn, ofR]
    | left v =>
      cases r with
      | nil =>
        simp only [endThn, ofR, mkG]
        cases dec v xs with
        | none => rfl
        | some q =>
          obtain ⟨b, p⟩ := q
          cases b <;> rfl
      | cons u l =>
        show sh 1 (dec (.grp .thn (v :: u :: l)) xs) = _
        rw [dec_thn xs v (u :: l)]
        simp only [ofR]
        cases dec v xs with
        | none => rfl
        | some q =>
          obtain ⟨b, p⟩ := q
          cases b with
          | false => rfl
          | true =>
            simp only [sh_some]
            rw [sh_sh, List.drop_succ_cons]
/-- the first place of a deed -/
def first (d : Str) : List Str → Option Nat
  | [] => none
  | x :: xs => if x = d then some 1 else (first d xs).map (· + 1)
theorem dec_wout (d : Str) : ∀ (xs : List Str) (t : Task), dec (.wout d t) xs = match first d xs, dec t xs with
    | none, o => o
    | some q, none => some (false, q)
    | some q, some (b, p) => if q ≤ p then some (false, q) else some (b, p)
  | [], t => rfl
  | x :: xs, t => by
    rw [dec_cons, dec_cons]
    simp only [step, first]
    by_cases hx : x = d
    · rw [if_pos hx, if_pos hx]
      have hp := dec_pos (x :: xs) t
      rw [dec_cons] at hp
      cases e : ofR xs (step x t) with
      | none => rfl
      | some q =>
        rw [e] at hp
        obtain ⟨b, p⟩ := q
        have : 1 ≤ p := hp
        simp only
        rw [if_pos this]
        rfl
    · rw [if_neg hx, if_neg hx]
      cases e : step x t with
      | done =>
        cases e2 : first d xs with
        | none => rfl
        | some q =>
          have h0 : q ≠ 0 := fun z => by
            subst z
            have : ∀ ys : List Str, first d ys ≠ some 0 := by
              intro ys
              induction ys with
              | nil => simp [first]
              | cons y ys ih =>
                simp only [first]
                split
                · simp
                · cases first d ys <;> simp
            exact this xs e2
          simp only [ofR, Option.map_some]
          rw [if_neg (by omega)]
      | failed =>
        cases e2 : first d xs with
        | none => rfl
        | some q =>
          have h0 : q ≠ 0 := fun z => by
            subst z
            have : ∀ ys : List Str, first d ys ≠ some 0 := by
              intro ys
              induction ys with
              | nil => simp [first]
              | cons y ys ih =>
                simp only [first]
                split
                · simp
                · cases first d ys <;> simp
            exact this xs e2
          simp only [ofR, Option.map_some]
          rw [if_neg (by omega)]
      | left u =>
        simp only [ofR]
        rw [dec_wout d xs u]
        cases first d xs with
        | none => rfl
        | some q =>
          cases dec u xs with
          | none => rfl
          | some p =>
            obtain ⟨b, p⟩ := p
            simp only [Option.map_some, sh_some]
            by_cases hq : q ≤ p
            · rw [if_pos hq, if_pos (by omega)]
              rfl
            · rw [if_neg hq, if_neg (by omega)]
              rfl
theorem dec_wthn : ∀ (xs : List Str) (n : Nat) (t : Task), dec (.wthn ((n : Int) + 1) t) xs = match dec t xs with
    | some (b, p) => if p ≤ n + 1 then some (b, p) else some (false, n + 1)
    | none => if n + 1 ≤ xs.length then some (false, n + 1) else none
  | [], n, t => rfl
  | x :: xs, n, t => by
    rw [dec_cons, dec_cons]
    simp only [step]
    cases e : step x t with
    | done => simp only [ofR]; rw [if_pos (by omega)]
    | failed => simp only [ofR]; rw [if_pos (by omega)]
    | left u =>
      simp only
      cases n with
      | zero =>
        rw [if_pos (by rfl)]
        simp only [ofR]
        cases e2 : dec u xs with
        | none => simp [sh_none]
        | some p =>
          obtain ⟨b, p⟩ := p
          have : 1 ≤ p := by
            have := dec_pos xs u
            rw [e2] at this
            exact this
          simp only [sh_some]
          rw [if_neg (by omega)]
      | succ n =>
        rw [if_neg (by omega)]
        simp only [ofR]
        rw [show ((n + 1 : Nat) : Int) + 1 - 1 = (n : Int) + 1 by omega, dec_wthn xs n u]
        cases dec u xs with
        | none =>
          simp only [sh_none, List.length_cons]
          by_cases hl : n + 1 ≤ xs.length
          · rw [if_pos hl, if_pos (by omega)]
            rfl
          · rw [if_neg hl, if_neg (by omega)]
            rfl
        | some p =>
          obtain ⟨b, p⟩ := p
          simp only [sh_some]
          by_cases hl : p ≤ n + 1
          · rw [if_pos hl, if_pos (by omega)]
            rfl
          · rw [if_neg hl, if_neg (by omega)]
            rfl
/-- the places of a deed -/
def places (d : Str) (s : Nat) : List Str → List Nat
  | [] => []
  | x :: xs => if x = d then (s + 1) :: places d (s + 1) xs else places d (s + 1) xs
theorem places_sh (d : Str) : ∀ (xs : List Str) (s : Nat), places d (s + 1) xs = (places d s xs).map (· + 1)
  | [], _ => rfl
  | x :: xs, s => by
    simp only [places]
    by_cases hx : x = d
    · rw [if_pos hx, if_pos hx, places_sh d xs (s + 1)]
      rfl
    · rw [if_neg hx, if_neg hx, places_sh d xs (s + 1)]
theorem dec_one (d : Str) : ∀ (xs : List Str) (n : Nat), dec (.one d ((n : Int) + 1)) xs = ((places d 0 xs)[n]?).map fun p => (true, p)
  | [], n => rfl
  | x :: xs, n => by
    rw [dec_cons]
    simp only [step, places]
    by_cases hx : x = d
    · rw [if_pos hx, if_pos hx]
      cases n with
      | zero => rfl
      | succ n =>
        rw [if_neg (by omega), show ((n + 1 : Nat) : Int) + 1 - 1 = (n : Int) + 1 by omega]
        simp only [ofR]
        rw [dec_one d xs n, List.getElem?_cons_succ, show (0 : Nat) + 1 = 0 + 1 from rfl, places_sh d xs 0, List.getElem?_map]
        cases (places d 0 xs)[n]? <;> rfl
    · rw [if_neg hx, if_neg hx]
      simp only [ofR]
      rw [dec_one d xs n, places_sh d xs 0, List.getElem?_map]
      cases (places d 0 xs)[n]? <;> rfl
end Tk

namespace Tk
open PySem L2 Tl
def wd : Bool → Str
  | true => "done"
  | false => "failed"
def encW : Dec → PyData
  | none => .none
  | some (b, p) => .tuple [.str (wd b), .int (p : Int)]
theorem wd_eq (a b : Bool) : ((wd a == wd b) : Bool) = (a == b) := by cases a <;> cases b <;> decide +kernel
theorem encW_lay (d : Dec) : (encW d).canLay0 = true := by
  cases d with
  | none => rfl
  | some p =>
    obtain ⟨b, p⟩ := p
    have h : PyData.canLay0 (.str (wd b)) = true := by cases b <;> decide +kernel
    simp only [encW, PyData.canLay0, PyData.canLayAll0, Bool.and_true] at h ⊢
    exact h
theorem encW_depth (d : Dec) : (encW d).depth ≤ 5 := by
  cases d with
  | none => decide +kernel
  | some p => obtain ⟨b, p⟩ := p; simp [encW, PyData.depth, PyData.depthAll]
theorem encW_shaped (d : Dec) : SeqAt.shaped (encW d) = true := shaped_of (encW_lay d) (by have := encW_depth d; omega)
/-! ### the formula of a group -/
def ends (e : Bool) (l : List Dec) : List Nat := l.filterMap fun d => match d with
  | some (b, p) => if b = e then some p else none
  | none => none
def mnN : List Nat → Nat
  | [] => 0
  | [x] => x
  | x :: r => min x (mnN r)
def mxN : List Nat → Nat
  | [] => 0
  | [x] => x
  | x :: r => max x (mxN r)
theorem mnN_cons (x : Nat) (r : List Nat) (h : r ≠ []) : mnN (x :: r) = min x (mnN r) := by
  cases r with
  | nil => exact absurd rfl h
  | cons y r => rfl
theorem mxN_cons (x : Nat) (r : List Nat) (h : r ≠ []) : mxN (x :: r) = max x (mxN r) := by
  cases r with
  | nil => exact absurd rfl h
  | cons y r => rfl
theorem minL_nat : ∀ l : List Nat, minL (l.map fun (n : Nat) => (n : Int)) = (mnN l : Int)
  | [] => rfl
  | [x] => rfl
  | x :: y :: r => by
    have ih := minL_nat (y :: r)
    show min (x : Int) (minL ((y :: r).map fun (n : Nat) => (n : Int))) = ((min x (mnN (y :: r)) : Nat) : Int)
    rw [ih]
    omega
theorem maxL_nat : ∀ l : List Nat, maxL (l.map fun (n : Nat) => (n : Int)) = (mxN l : Int)
  | [] => rfl
  | [x] => rfl
  | x :: y :: r => by
    have ih := maxL_nat (y :: r)
    show max (x : Int) (maxL ((y :: r).map fun (n : Nat) => (n : Int))) = ((max x (mxN (y :: r)) : Nat) : Int)
    rw [ih]
    omega
theorem ends_none (e : Bool) (l : List Dec) : ends e (none :: l) = ends e l := rfl
theorem ends_pos (e : Bool) (p : Nat) (l : List Dec) : ends e (some (e, p) :: l) = p :: ends e l := by simp [ends]
theorem ends_neg (e : Bool) (p : Nat) (l : List Dec) : ends e (some (!e, p) :: l) = ends e l := by cases e <;> simp [ends]
theorem dec_cases (e : Bool) (d : Dec) : d = none ∨ (∃ p, d = some (e, p)) ∨ ∃ p, d = some (!e, p) := by
  cases d with
  | none => exact .inl rfl
  | some q =>
    obtain ⟨b, p⟩ := q
    cases b <;> cases e
    · exact .inr (.inl ⟨p, rfl⟩)
    · exact .inr (.inr ⟨p, rfl⟩)
    · exact .inr (.inr ⟨p, rfl⟩)
    · exact .inr (.inl ⟨p, rfl⟩)
theorem comb_en (e : Bool) (p : Nat) : comb e (some (e, p)) none = some (e, p) := by cases e <;> rfl
theorem comb_ee (e : Bool) (p q : Nat) : comb e (some (e, p)) (some (e, q)) = some (e, min p q) := by cases e <;> rfl
theorem comb_eo (e : Bool) (p q : Nat) : comb e (some (e, p)) (some (!e, q)) = some (e, p) := by cases e <;> rfl
theorem comb_oe (e : Bool) (p q : Nat) : comb e (some (!e, p)) (some (e, q)) = some (e, q) := by cases e <;> rfl
theorem comb_oo (e : Bool) (p q : Nat) : comb e (some (!e, p)) (some (!e, q)) = some (!e, max p q) := by cases e <;> rfl
theorem comb_on (e : Bool) (p : Nat) : comb e (some (!e, p)) none = none := by cases e <;> rfl
theorem comb_ne (e : Bool) (q : Nat) : comb e none (some (e, q)) = some (e, q) := by cases e <;> rfl
theorem comb_no (e : Bool) (q : Nat) : comb e none (some (!e, q)) = none := by cases e <;> rfl
def snds (l : List Dec) : List Nat := l.map fun d => match d with
  | some (_, p) => p
  | none => 0
theorem gr_form (e : Bool) : ∀ l : List Dec, l ≠ [] → gr e l = if ends e l ≠ [] then some (e, mnN (ends e l)) else if l.any Option.isNone then none else some (!e, mxN (snds l))
  | [], h => absurd rfl h
  | [a], _ => by
    rcases dec_cases e a with rfl | ⟨p, rfl⟩ | ⟨p, rfl⟩
    · rfl
    · rw [ends_pos]; rfl
    · rw [ends_neg]; rfl
  | a :: b :: r, _ => by
    have ih := gr_form e (b :: r) (by simp)
    rw [gr_cons e a _ (by simp), ih, show (a :: b :: r).any Option.isNone = (a.isNone || (b :: r).any Option.isNone) from rfl]
    generalize (b :: r).any Option.isNone = z
    have hs : snds (b :: r) ≠ [] := by simp [snds]
    rcases dec_cases e a with rfl | ⟨p, rfl⟩ | ⟨p, rfl⟩
    · rw [ends_none]
      by_cases h1 : ends e (b :: r) ≠ []
      · rw [if_pos h1, if_pos h1, comb_ne]
      · rw [if_neg h1, if_neg h1]
        cases z with
        | true => rfl
        | false => exact comb_no e _
    · rw [ends_pos, if_pos (by simp : (p :: ends e (b :: r)) ≠ [])]
      by_cases h1 : ends e (b :: r) ≠ []
      · rw [if_pos h1, comb_ee, mnN_cons _ _ h1]
      · rw [if_neg h1]
        have h2 : ends e (b :: r) = [] := Classical.byContradiction h1
        rw [h2]
        cases z with
        | true => exact comb_en e _
        | false => exact comb_eo e _ _
    · rw [ends_neg]
      by_cases h1 : ends e (b :: r) ≠ []
      · rw [if_pos h1, if_pos h1, comb_oe]
      · rw [if_neg h1, if_neg h1]
        cases z with
        | true => exact comb_on e _
        | false =>
          show comb e _ (some (!e, _)) = some (!e, mxN (p :: snds (b :: r)))
          rw [comb_oo, mxN_cons _ _ hs]
/-! ### the text of it -/
theorem asIs_nat : ∀ l : List Nat, asIs (l.map fun (n : Nat) => PyData.int (n : Int)) = some (l.map fun (n : Nat) => (n : Int))
  | [] => rfl
  | x :: r => by simp only [List.map_cons, asIs, asIs_nat r, Option.bind_some, Option.map_some]
theorem min_nat {l : List Nat} (h : l ≠ []) : minLD (.list (l.map fun (n : Nat) => PyData.int (n : Int))) = some (.int (mnN l : Int)) := by
  simp only [minLD, onL, asIs_nat, Option.bind_some]
  rw [if_neg (by simpa using h), minL_nat]
theorem max_nat {l : List Nat} (h : l ≠ []) : maxLD (.list (l.map fun (n : Nat) => PyData.int (n : Int))) = some (.int (mxN l : Int)) := by
  simp only [maxLD, onL, asIs_nat, Option.bind_some]
  rw [if_neg (by simpa using h), maxL_nat]
theorem row_shaped {α : Type} (f : α → PyData) (D : Nat) (hD : D ≤ 60) (l : List α) (h : ∀ a ∈ l, (f a).canLay0 = true ∧ (f a).depth ≤ D) : SeqAt.shaped (.list (l.map f)) = true := by
  refine shaped_of ?_ ?_
  · simp only [PyData.canLay0]
    exact lay_all _ fun x hx => by
      obtain ⟨r, hr, rfl⟩ := List.mem_map.mp hx
      exact (h r hr).1
  · have := depth_all D (l.map f) fun x hx => by
      obtain ⟨r, hr, rfl⟩ := List.mem_map.mp hx
      exact (h r hr).2
    simp only [PyData.depth]
    omega
theorem nats_shaped (l : List Nat) : SeqAt.shaped (.list (l.map fun (n : Nat) => PyData.int (n : Int))) = true := row_shaped _ 5 (by decide) l fun n _ => ⟨by simp [PyData.canLay0], by simp [PyData.depth]⟩
theorem nats_ne (l : List Nat) : neP (.list (l.map fun (n : Nat) => PyData.int (n : Int))) (.list []) = some (.bool (!l.isEmpty)) := by
  rw [neP_of (nats_shaped l) (by decide +kernel)]
  cases l <;> simp [PyData.eqv, PyData.eqvAll]
theorem in_none (l : List Dec) : inP .none (.list (l.map encW)) = some (.bool (l.any Option.isNone)) := by
  rw [inP_of (by decide +kernel) (row_shaped _ 5 (by decide) l fun d _ => ⟨encW_lay d, encW_depth d⟩), List.any_map]
  congr 2
  congr 1
  funext d
  cases d with
  | none => rfl
  | some p => obtain ⟨b, p⟩ := p; simp [encW, PyData.eqv]
def isE (e : Bool) (d : Dec) : Bool := match d with
  | some (b, _) => b == e
  | none => false
def snd (d : Dec) : Nat := match d with
  | some (_, p) => p
  | none => 0
theorem ends_fil (e : Bool) : ∀ l : List Dec, (l.filter (isE e)).map snd = ends e l
  | [] => rfl
  | d :: r => by
    have ih := ends_fil e r
    rcases dec_cases e d with rfl | ⟨p, rfl⟩ | ⟨p, rfl⟩
    · rw [ends_none, ← ih]; rfl
    · rw [ends_pos, ← ih, List.filter_cons_of_pos (by cases e <;> rfl)]; rfl
    · rw [ends_neg, ← ih, List.filter_cons_of_neg (by cases e <;> simp [isE])]
theorem grp_comp1 (e : Bool) (a b c d : Option PyData) (l : List Dec) : compL (gN 5) (fAnd (fB (f1 (fun d => some (.bool (!isNone d))) (fV 5))) (fB (f2 eqP (f2 ixD (fV 5) (fC (.int 0))) (fV 2)))) (f2 ixD (fV 5) (fC (.int 1))) [a, b, some (.str (wd e)), c, d, none] (l.map encW) = some ((ends e l).map fun (n : Nat) => PyData.int (n : Int)) := by
  rw [compL_gen (e := encW) (p := isE e) (h := fun d => PyData.int (snd d : Int)), ← ends_fil, List.map_map]
  · rfl
  · intro d _
    cases d with
    | none => rfl
    | some q =>
      obtain ⟨x, p⟩ := q
      simp only [runB, fSeq, fIf, fRet, fAsg, fB, f1, f2, fA, fA0, fL, fV, fC, fTup, fLst, fNext, on1, on2, gN, gT, gsC, gs0, asB, fAnd, fOr, fBnd, fBor, fNot, fVB, fIte, fAndV, fOrV, notD, negD, fO, fO0, asI, fSl, fPar, List.map_cons, List.map_nil, List.length_cons, List.length_nil, List.reduceReplicate, List.cons_append, List.nil_append, List.append_nil, List.getElem?_cons_zero, List.getElem?_cons_succ, Option.join_some, Option.join_none, List.set_cons_zero, List.set_cons_succ, Option.bind_some, Option.bind_none, Option.map_some, Option.map_none, Nat.reduceSub, Nat.reduceAdd, Nat.reduceEqDiff, if_true, if_false, Bool.false_eq_true, reduceIte, Nat.zero_add, fComp, fItems, itemsOf, extOf, wipeE, fEnum, fRng1, fRng2, fSigns, lenD, tupD, lstD, ix0, ix1, ix2, eq_s, ne_s, eq_i, ne_i, add_i, sub_i, in_t2, in_t3, List.length_map, encW, nn_tup, Bool.not_false, wd_eq]
      rfl
  · intro d _ hd
    cases d with
    | none => cases hd
    | some q =>
      obtain ⟨x, p⟩ := q
      simp only [runB, fSeq, fIf, fRet, fAsg, fB, f1, f2, fA, fA0, fL, fV, fC, fTup, fLst, fNext, on1, on2, gN, gT, gsC, gs0, asB, fAnd, fOr, fBnd, fBor, fNot, fVB, fIte, fAndV, fOrV, notD, negD, fO, fO0, asI, fSl, fPar, List.map_cons, List.map_nil, List.length_cons, List.length_nil, List.reduceReplicate, List.cons_append, List.nil_append, List.append_nil, List.getElem?_cons_zero, List.getElem?_cons_succ, Option.join_some, Option.join_none, List.set_cons_zero, List.set_cons_succ, Option.bind_some, Option.bind_none, Option.map_some, Option.map_none, Nat.reduceSub, Nat.reduceAdd, Nat.reduceEqDiff, if_true, if_false, Bool.false_eq_true, reduceIte, Nat.zero_add, fComp, fItems, itemsOf, extOf, wipeE, fEnum, fRng1, fRng2, fSigns, lenD, tupD, lstD, ix0, ix1, ix2, eq_s, ne_s, eq_i, ne_i, add_i, sub_i, in_t2, in_t3, List.length_map, encW]
      rfl
theorem grp_comp2 (a b c d f : Option PyData) (l : List Dec) (h : l.any Option.isNone = false) : compL (gN 5) fYes (f2 ixD (fV 5) (fC (.int 1))) [a, b, c, d, f, none] (l.map encW) = some ((snds l).map fun (n : Nat) => PyData.int (n : Int)) := by
  rw [compL_map (e := encW) (h := fun d => PyData.int (snd d : Int))]
  · unfold snds
    rw [List.map_map]
    rfl
  · intro d hd
    cases d with
    | none =>
      have : l.any Option.isNone = true := List.any_eq_true.mpr ⟨none, hd, rfl⟩
      rw [h] at this
      cases this
    | some q =>
      obtain ⟨x, p⟩ := q
      simp only [runB, fSeq, fIf, fRet, fAsg, fB, f1, f2, fA, fA0, fL, fV, fC, fTup, fLst, fNext, on1, on2, gN, gT, gsC, gs0, asB, fAnd, fOr, fBnd, fBor, fNot, fVB, fIte, fAndV, fOrV, notD, negD, fO, fO0, asI, fSl, fPar, List.map_cons, List.map_nil, List.length_cons, List.length_nil, List.reduceReplicate, List.cons_append, List.nil_append, List.append_nil, List.getElem?_cons_zero, List.getElem?_cons_succ, Option.join_some, Option.join_none, List.set_cons_zero, List.set_cons_succ, Option.bind_some, Option.bind_none, Option.map_some, Option.map_none, Nat.reduceSub, Nat.reduceAdd, Nat.reduceEqDiff, if_true, if_false, Bool.false_eq_true, reduceIte, Nat.zero_add, fComp, fItems, itemsOf, extOf, wipeE, fEnum, fRng1, fRng2, fSigns, lenD, tupD, lstD, ix0, ix1, ix2, eq_s, ne_s, eq_i, ne_i, add_i, sub_i, in_t2, in_t3, List.length_map, encW]
      rfl
theorem F_when_group (w : Gw) (hw : w ≠ .thn) (l : List Dec) (h : l ≠ []) : F__law_when_group [.str w.str, .list (l.map encW)] = some (encW (gr w.end l)) := by
  have key : ∀ e : Bool, (∀ (ρ : En), F__law_when_group [.str w.str, .list (l.map encW)] = F__law_when_group [.str w.str, .list (l.map encW)]) := fun _ _ => rfl
  have hs : snds l ≠ [] := by simpa [snds] using h
  have fin : ∀ e : Bool, (if (!(ends e l).isEmpty) = true then some (PyData.tuple [.str (wd e), .int (mnN (ends e l) : Int)]) else if l.any Option.isNone = true then some .none else some (PyData.tuple [.str (wd (!e)), .int (mxN (snds l) : Int)])) = some (encW (gr e l)) := by
    intro e
    rw [gr_form e l h]
    cases h1 : ends e l with
    | nil =>
      simp only [List.isEmpty_nil, Bool.not_true, Bool.false_eq_true, if_false, ne_eq, not_true_eq_false]
      cases l.any Option.isNone <;> rfl
    | cons x r => rfl
  have w1 : wd true = "done" := rfl
  have w0 : wd false = "failed" := rfl
  cases w with
  | thn => exact absurd rfl hw
  | all =>
    rw [show Gw.end .all = false from rfl, ← fin false]
    unfold F__law_when_group B__law_when_group
    simp only [Gw.str_all, runB, fSeq, fIf, fRet, fAsg, fB, f1, f2, fA, fA0, fL, fV, fC, fTup, fLst, fNext, on1, on2, gN, gT, gsC, gs0, asB, fAnd, fOr, fBnd, fBor, fNot, fVB, fIte, fAndV, fOrV, notD, negD, fO, fO0, asI, fSl, fPar, List.map_cons, List.map_nil, List.length_cons, List.length_nil, List.reduceReplicate, List.cons_append, List.nil_append, List.append_nil, List.getElem?_cons_zero, List.getElem?_cons_succ, Option.join_some, Option.join_none, List.set_cons_zero, List.set_cons_succ, Option.bind_some, Option.bind_none, Option.map_some, Option.map_none, Nat.reduceSub, Nat.reduceAdd, Nat.reduceEqDiff, if_true, if_false, Bool.false_eq_true, reduceIte, Nat.zero_add, fComp, fItems, itemsOf, extOf, wipeE, fEnum, fRng1, fRng2, fSigns, lenD, tupD, lstD, ix0, ix1, ix2, eq_s, ne_s, eq_i, ne_i, add_i, sub_i, in_t2, in_t3, List.length_map, w_do_do, w_do_all, w_do_any, w_do_then, w_do_without, w_do_within, w_do_done, w_do_failed, w_all_do, w_all_all, w_all_any, w_all_then, w_all_without, w_all_within, w_all_done, w_all_failed, w_any_do, w_any_all, w_any_any, w_any_then, w_any_without, w_any_within, w_any_done, w_any_failed, w_then_do, w_then_all, w_then_any, w_then_then, w_then_without, w_then_within, w_then_done, w_then_failed, w_without_do, w_without_all, w_without_any, w_without_then, w_without_without, w_without_within, w_without_done, w_without_failed, w_within_do, w_within_all, w_within_any, w_within_then, w_within_without, w_within_within, w_within_done, w_within_failed, w_done_do, w_done_all, w_done_any, w_done_then, w_done_without, w_done_within, w_done_done, w_done_failed, w_failed_do, w_failed_all, w_failed_any, w_failed_then, w_failed_without, w_failed_within, w_failed_done, w_failed_failed, int_f, lst0]
    simp only [← w0, grp_comp1, Option.map_some, nats_ne, runB, fSeq, fIf, fRet, fAsg, fB, f1, f2, fA, fA0, fL, fV, fC, fTup, fLst, fNext, on1, on2, gN, gT, gsC, gs0, asB, fAnd, fOr, fBnd, fBor, fNot, fVB, fIte, fAndV, fOrV, notD, negD, fO, fO0, asI, fSl, fPar, List.map_cons, List.map_nil, List.length_cons, List.length_nil, List.reduceReplicate, List.cons_append, List.nil_append, List.append_nil, List.getElem?_cons_zero, List.getElem?_cons_succ, Option.join_some, Option.join_none, List.set_cons_zero, List.set_cons_succ, Option.bind_some, Option.bind_none, Option.map_some, Option.map_none, Nat.reduceSub, Nat.reduceAdd, Nat.reduceEqDiff, if_true, if_false, Bool.false_eq_true, reduceIte, Nat.zero_add, fComp, fItems, itemsOf, extOf, wipeE, fEnum, fRng1, fRng2, fSigns, lenD, tupD, lstD, ix0, ix1, ix2, eq_s, ne_s, eq_i, ne_i, add_i, sub_i, in_t2, in_t3, List.length_map]
    cases h1 : (ends false l).isEmpty with
    | true =>
      simp only [Bool.not_true, runB, fSeq, fIf, fRet, fAsg, fB, f1, f2, fA, fA0, fL, fV, fC, fTup, fLst, fNext, on1, on2, gN, gT, gsC, gs0, asB, fAnd, fOr, fBnd, fBor, fNot, fVB, fIte, fAndV, fOrV, notD, negD, fO, fO0, asI, fSl, fPar, List.map_cons, List.map_nil, List.length_cons, List.length_nil, List.reduceReplicate, List.cons_append, List.nil_append, List.append_nil, List.getElem?_cons_zero, List.getElem?_cons_succ, Option.join_some, Option.join_none, List.set_cons_zero, List.set_cons_succ, Option.bind_some, Option.bind_none, Option.map_some, Option.map_none, Nat.reduceSub, Nat.reduceAdd, Nat.reduceEqDiff, if_true, if_false, Bool.false_eq_true, reduceIte, Nat.zero_add, fComp, fItems, itemsOf, extOf, wipeE, fEnum, fRng1, fRng2, fSigns, lenD, tupD, lstD, ix0, ix1, ix2, eq_s, ne_s, eq_i, ne_i, add_i, sub_i, in_t2, in_t3, List.length_map, in_none]
      cases h2 : l.any Option.isNone with
      | true => rfl
      | false => simp only [runB, fSeq, fIf, fRet, fAsg, fB, f1, f2, fA, fA0, fL, fV, fC, fTup, fLst, fNext, on1, on2, gN, gT, gsC, gs0, asB, fAnd, fOr, fBnd, fBor, fNot, fVB, fIte, fAndV, fOrV, notD, negD, fO, fO0, asI, fSl, fPar, List.map_cons, List.map_nil, List.length_cons, List.length_nil, List.reduceReplicate, List.cons_append, List.nil_append, List.append_nil, List.getElem?_cons_zero, List.getElem?_cons_succ, Option.join_some, Option.join_none, List.set_cons_zero, List.set_cons_succ, Option.bind_some, Option.bind_none, Option.map_some, Option.map_none, Nat.reduceSub, Nat.reduceAdd, Nat.reduceEqDiff, if_true, if_false, Bool.false_eq_true, reduceIte, Nat.zero_add, fComp, fItems, itemsOf, extOf, wipeE, fEnum, fRng1, fRng2, fSigns, lenD, tupD, lstD, ix0, ix1, ix2, eq_s, ne_s, eq_i, ne_i, add_i, sub_i, in_t2, in_t3, List.length_map, grp_comp2 _ _ _ _ _ _ h2, Option.map_some, max_nat hs, Bool.not_false, w1]
    | false =>
      have h3 : ends false l ≠ [] := fun z => by rw [z] at h1; cases h1
      simp only [Bool.not_false, runB, fSeq, fIf, fRet, fAsg, fB, f1, f2, fA, fA0, fL, fV, fC, fTup, fLst, fNext, on1, on2, gN, gT, gsC, gs0, asB, fAnd, fOr, fBnd, fBor, fNot, fVB, fIte, fAndV, fOrV, notD, negD, fO, fO0, asI, fSl, fPar, List.map_cons, List.map_nil, List.length_cons, List.length_nil, List.reduceReplicate, List.cons_append, List.nil_append, List.append_nil, List.getElem?_cons_zero, List.getElem?_cons_succ, Option.join_some, Option.join_none, List.set_cons_zero, List.set_cons_succ, Option.bind_some, Option.bind_none, Option.map_some, Option.map_none, Nat.reduceSub, Nat.reduceAdd, Nat.reduceEqDiff, if_true, if_false, Bool.false_eq_true, reduceIte, Nat.zero_add, fComp, fItems, itemsOf, extOf, wipeE, fEnum, fRng1, fRng2, fSigns, lenD, tupD, lstD, ix0, ix1, ix2, eq_s, ne_s, eq_i, ne_i, add_i, sub_i, in_t2, in_t3, List.length_map, min_nat h3]
  | any =>
    rw [show Gw.end .any = true from rfl, ← fin true]
    unfold F__law_when_group B__law_when_group
    simp only [Gw.str_any, runB, fSeq, fIf, fRet, fAsg, fB, f1, f2, fA, fA0, fL, fV, fC, fTup, fLst, fNext, on1, on2, gN, gT, gsC, gs0, asB, fAnd, fOr, fBnd, fBor, fNot, fVB, fIte, fAndV, fOrV, notD, negD, fO, fO0, asI, fSl, fPar, List.map_cons, List.map_nil, List.length_cons, List.length_nil, List.reduceReplicate, List.cons_append, List.nil_append, List.append_nil, List.getElem?_cons_zero, List.getElem?_cons_succ, Option.join_some, Option.join_none, List.set_cons_zero, List.set_cons_succ, Option.bind_some, Option.bind_none, Option.map_some, Option.map_none, Nat.reduceSub, Nat.reduceAdd, Nat.reduceEqDiff, if_true, if_false, Bool.false_eq_true, reduceIte, Nat.zero_add, fComp, fItems, itemsOf, extOf, wipeE, fEnum, fRng1, fRng2, fSigns, lenD, tupD, lstD, ix0, ix1, ix2, eq_s, ne_s, eq_i, ne_i, add_i, sub_i, in_t2, in_t3, List.length_map, w_do_do, w_do_all, w_do_any, w_do_then, w_do_without, w_do_within, w_do_done, w_do_failed, w_all_do, w_all_all, w_all_any, w_all_then, w_all_without, w_all_within, w_all_done, w_all_failed, w_any_do, w_any_all, w_any_any, w_any_then, w_any_without, w_any_within, w_any_done, w_any_failed, w_then_do, w_then_all, w_then_any, w_then_then, w_then_without, w_then_within, w_then_done, w_then_failed, w_without_do, w_without_all, w_without_any, w_without_then, w_without_without, w_without_within, w_without_done, w_without_failed, w_within_do, w_within_all, w_within_any, w_within_then, w_within_without, w_within_within, w_within_done, w_within_failed, w_done_do, w_done_all, w_done_any, w_done_then, w_done_without, w_done_within, w_done_done, w_done_failed, w_failed_do, w_failed_all, w_failed_any, w_failed_then, w_failed_without, w_failed_within, w_failed_done, w_failed_failed, int_t, lst1]
    simp only [← w1, grp_comp1, Option.map_some, nats_ne, runB, fSeq, fIf, fRet, fAsg, fB, f1, f2, fA, fA0, fL, fV, fC, fTup, fLst, fNext, on1, on2, gN, gT, gsC, gs0, asB, fAnd, fOr, fBnd, fBor, fNot, fVB, fIte, fAndV, fOrV, notD, negD, fO, fO0, asI, fSl, fPar, List.map_cons, List.map_nil, List.length_cons, List.length_nil, List.reduceReplicate, List.cons_append, List.nil_append, List.append_nil, List.getElem?_cons_zero, List.getElem?_cons_succ, Option.join_some, Option.join_none, List.set_cons_zero, List.set_cons_succ, Option.bind_some, Option.bind_none, Option.map_some, Option.map_none, Nat.reduceSub, Nat.reduceAdd, Nat.reduceEqDiff, if_true, if_false, Bool.false_eq_true, reduceIte, Nat.zero_add, fComp, fItems, itemsOf, extOf, wipeE, fEnum, fRng1, fRng2, fSigns, lenD, tupD, lstD, ix0, ix1, ix2, eq_s, ne_s, eq_i, ne_i, add_i, sub_i, in_t2, in_t3, List.length_map]
    cases h1 : (ends true l).isEmpty with
    | true =>
      simp only [Bool.not_true, runB, fSeq, fIf, fRet, fAsg, fB, f1, f2, fA, fA0, fL, fV, fC, fTup, fLst, fNext, on1, on2, gN, gT, gsC, gs0, asB, fAnd, fOr, fBnd, fBor, fNot, fVB, fIte, fAndV, fOrV, notD, negD, fO, fO0, asI, fSl, fPar, List.map_cons, List.map_nil, List.length_cons, List.length_nil, List.reduceReplicate, List.cons_append, List.nil_append, List.append_nil, List.getElem?_cons_zero, List.getElem?_cons_succ, Option.join_some, Option.join_none, List.set_cons_zero, List.set_cons_succ, Option.bind_some, Option.bind_none, Option.map_some, Option.map_none, Nat.reduceSub, Nat.reduceAdd, Nat.reduceEqDiff, if_true, if_false, Bool.false_eq_true, reduceIte, Nat.zero_add, fComp, fItems, itemsOf, extOf, wipeE, fEnum, fRng1, fRng2, fSigns, lenD, tupD, lstD, ix0, ix1, ix2, eq_s, ne_s, eq_i, ne_i, add_i, sub_i, in_t2, in_t3, List.length_map, in_none]
      cases h2 : l.any Option.isNone with
      | true => rfl
      | false => simp only [runB, fSeq, fIf, fRet, fAsg, fB, f1, f2, fA, fA0, fL, fV, fC, fTup, fLst, fNext, on1, on2, gN, gT, gsC, gs0, asB, fAnd, fOr, fBnd, fBor, fNot, fVB, fIte, fAndV, fOrV, notD, negD, fO, fO0, asI, fSl, fPar, List.map_cons, List.map_nil, List.length_cons, List.length_nil, List.reduceReplicate, List.cons_append, List.nil_append, List.append_nil, List.getElem?_cons_zero, List.getElem?_cons_succ, Option.join_some, Option.join_none, List.set_cons_zero, List.set_cons_succ, Option.bind_some, Option.bind_none, Option.map_some, Option.map_none, Nat.reduceSub, Nat.reduceAdd, Nat.reduceEqDiff, if_true, if_false, Bool.false_eq_true, reduceIte, Nat.zero_add, fComp, fItems, itemsOf, extOf, wipeE, fEnum, fRng1, fRng2, fSigns, lenD, tupD, lstD, ix0, ix1, ix2, eq_s, ne_s, eq_i, ne_i, add_i, sub_i, in_t2, in_t3, List.length_map, grp_comp2 _ _ _ _ _ _ h2, Option.map_some, max_nat hs, Bool.not_false, w0]
    | false =>
      have h3 : ends true l ≠ [] := fun z => by rw [z] at h1; cases h1
      simp only [Bool.not_false, runB, fSeq, fIf, fRet, fAsg, fB, f1, f2, fA, fA0, fL, fV, fC, fTup, fLst, fNext, on1, on2, gN, gT, gsC, gs0, asB, fAnd, fOr, fBnd, fBor, fNot, fVB, fIte, fAndV, fOrV, notD, negD, fO, fO0, asI, fSl, fPar, List.map_cons, List.map_nil, List.length_cons, List.length_nil, List.reduceReplicate, List.cons_append, List.nil_append, List.append_nil, List.getElem?_cons_zero, List.getElem?_cons_succ, Option.join_some, Option.join_none, List.set_cons_zero, List.set_cons_succ, Option.bind_some, Option.bind_none, Option.map_some, Option.map_none, Nat.reduceSub, Nat.reduceAdd, Nat.reduceEqDiff, if_true, if_false, Bool.false_eq_true, reduceIte, Nat.zero_add, fComp, fItems, itemsOf, extOf, wipeE, fEnum, fRng1, fRng2, fSigns, lenD, tupD, lstD, ix0, ix1, ix2, eq_s, ne_s, eq_i, ne_i, add_i, sub_i, in_t2, in_t3, List.length_map, min_nat h3]
/-! ### the places of a deed, by numbers -/
theorem places_range (d : Str) : ∀ (ys : List Str) (s : Nat), ((List.range ys.length).filter fun k => decide (ys[k]? = some d)).map (fun k => s + k + 1) = places d s ys
  | [], _ => rfl
  | y :: ys, s => by
    have ih := places_range d ys (s + 1)
    rw [List.length_cons, List.range_succ_eq_map, List.filter_cons, List.filter_map, places]
    have e1 : ((List.range ys.length).filter ((fun k => decide ((y :: ys)[k]? = some d)) ∘ Nat.succ)) = (List.range ys.length).filter fun k => decide (ys[k]? = some d) := by
      congr 1
    rw [e1]
    have e2 : List.map (fun k => s + k + 1) (List.map Nat.succ ((List.range ys.length).filter fun k => decide (ys[k]? = some d))) = places d (s + 1) ys := by
      rw [← ih, List.map_map]
      congr 1
      funext k
      show s + (k + 1) + 1 = s + 1 + k + 1
      omega
    by_cases hy : y = d
    · rw [if_pos hy, if_pos (by simp [hy]), List.map_cons, e2]
    · rw [if_neg hy, if_neg (by simp [hy]), e2]
theorem places_0 (d : Str) (ys : List Str) : ∀ s : Nat, places d s ys = (places d 0 ys).map (· + s)
  | 0 => by simp
  | s + 1 => by
    rw [places_sh, places_0 d ys s, List.map_map]
    congr 1
theorem first_places (d : Str) : ∀ ys : List Str, first d ys = (places d 0 ys).head?
  | [] => rfl
  | y :: ys => by
    simp only [first, places]
    by_cases hy : y = d
    · rw [if_pos hy, if_pos hy]; rfl
    · rw [if_neg hy, if_neg hy, places_sh, first_places d ys, List.head?_map]
theorem rng_2 {i j : Nat} (hi : i ≤ j) (hj : j ≤ 1000000) : rng2 [.int i, .int j] = some ((List.range (j - i)).map fun (k : Nat) => PyData.int ((i : Int) + k)) := by
  simp only [rng2]
  rw [if_pos (by omega)]
  unfold rangeL
  rw [show ((j : Int) - i).toNat = j - i by omega]
theorem ix_sts {xs : List Str} {i : Nat} (h : i < xs.length) : ixD (.tuple (sts xs)) (.int (i : Int)) = some (.str xs[i]) := by
  simp only [ixD]
  rw [atI_nn _ _ (by omega) (by rw [sts_len]; omega), Int.toNat_natCast]
  simp [sts, h]
theorem pl_comp (w d : Str) (x : List PyData) (xs : List Str) (s : Nat) (hs : s ≤ xs.length) (c e f g h i : Option PyData) : compL (gN 8) (fB (f2 eqP (f2 ixD (fV 1) (fV 8)) (f2 ixD (fV 0) (fC (.int 1))))) (f2 addD (fV 8) (fC (.int 1))) [some (.tuple (.str w :: .str d :: x)), some (.tuple (sts xs)), c, e, f, g, h, i, none] ((List.range (xs.length - s)).map fun (k : Nat) => PyData.int ((s : Int) + k)) = some ((places d s (xs.drop s)).map fun (n : Nat) => PyData.int (n : Int)) := by
  rw [compL_gen (e := fun (k : Nat) => PyData.int ((s : Int) + k)) (p := fun k => decide ((xs.drop s)[k]? = some d)) (h := fun (k : Nat) => PyData.int ((s + k + 1 : Nat) : Int)), ← places_range, List.map_map, List.length_drop]
  · rfl
  · intro k hk
    have hk' : s + k < xs.length := by have := List.mem_range.mp hk; omega
    have q := ix_sts hk'
    rw [show ((s + k : Nat) : Int) = (s : Int) + k by omega] at q
    simp only [runB, fSeq, fIf, fRet, fAsg, fB, f1, f2, fA, fA0, fL, fV, fC, fTup, fLst, fNext, on1, on2, gN, gT, gsC, gs0, asB, fAnd, fOr, fBnd, fBor, fNot, fVB, fIte, fAndV, fOrV, notD, negD, fO, fO0, asI, fSl, fPar, List.map_cons, List.map_nil, List.length_cons, List.length_nil, List.reduceReplicate, List.cons_append, List.nil_append, List.append_nil, List.getElem?_cons_zero, List.getElem?_cons_succ, Option.join_some, Option.join_none, List.set_cons_zero, List.set_cons_succ, Option.bind_some, Option.bind_none, Option.map_some, Option.map_none, Nat.reduceSub, Nat.reduceAdd, Nat.reduceEqDiff, if_true, if_false, Bool.false_eq_true, reduceIte, Nat.zero_add, fComp, fItems, itemsOf, extOf, wipeE, fEnum, fRng1, fRng2, fSigns, lenD, tupD, lstD, ix0, ix1, ix2, eq_s, ne_s, eq_i, ne_i, add_i, sub_i, in_t2, in_t3, List.length_map, q, List.getElem?_drop]
    rw [List.getElem?_eq_getElem hk']
    congr 1
    by_cases hx : xs[s + k] = d
    · rw [beq_str hx]; simp [hx]
    · rw [bne_str hx]; simp [hx]
  · intro k hk _
    simp only [runB, fSeq, fIf, fRet, fAsg, fB, f1, f2, fA, fA0, fL, fV, fC, fTup, fLst, fNext, on1, on2, gN, gT, gsC, gs0, asB, fAnd, fOr, fBnd, fBor, fNot, fVB, fIte, fAndV, fOrV, notD, negD, fO, fO0, asI, fSl, fPar, List.map_cons, List.map_nil, List.length_cons, List.length_nil, List.reduceReplicate, List.cons_append, List.nil_append, List.append_nil, List.getElem?_cons_zero, List.getElem?_cons_succ, Option.join_some, Option.join_none, List.set_cons_zero, List.set_cons_succ, Option.bind_some, Option.bind_none, Option.map_some, Option.map_none, Nat.reduceSub, Nat.reduceAdd, Nat.reduceEqDiff, if_true, if_false, Bool.false_eq_true, reduceIte, Nat.zero_add, fComp, fItems, itemsOf, extOf, wipeE, fEnum, fRng1, fRng2, fSigns, lenD, tupD, lstD, ix0, ix1, ix2, eq_s, ne_s, eq_i, ne_i, add_i, sub_i, in_t2, in_t3, List.length_map]
    congr 2
end Tk

namespace Tk
open PySem L2 Tl
theorem atI_nats {l : List Nat} {j : Nat} {p : Nat} (h : l[j]? = some p) : ixD (.list (l.map fun (n : Nat) => PyData.int (n : Int))) (.int (j : Int)) = some (.int (p : Int)) := by
  have hj : j < l.length := (List.getElem?_eq_some_iff.mp h).1
  simp only [ixD]
  rw [atI_nn _ _ (by omega) (by rw [List.length_map]; omega), Int.toNat_natCast, List.getElem?_map, h]
  rfl
theorem le_i (a b : Int) : leD (.int a) (.int b) = some (.bool (decide (a ≤ b))) := rfl
theorem dec_one_thn (t : Task) (xs : List Str) : dec (.grp .thn [t]) xs = dec t xs := by
  rw [dec_thn]
  cases dec t xs with
  | none => rfl
  | some q => obtain ⟨b, p⟩ := q; cases b <;> rfl
theorem dec_mkthn {l : List Task} (h : l ≠ []) (xs : List Str) : dec (mkG .thn l) xs = dec (.grp .thn l) xs := by
  match l, h with
  | [t], _ => exact (dec_one_thn t xs).symm
  | t :: u :: r, _ => rfl
def chain (xs : List Str) : Nat → List Task → Dec
  | p, [] => some (true, p)
  | p, t :: l => match dec t (xs.drop p) with
    | none => none
    | some (false, q) => some (false, q + p)
    | some (true, q) => chain xs (q + p) l
theorem chain_dec (xs : List Str) : ∀ (l : List Task) (p : Nat), l ≠ [] → chain xs p l = sh p (dec (.grp .thn l) (xs.drop p))
  | [], _, h => absurd rfl h
  | [t], p, _ => by
    rw [dec_one_thn]
    simp only [chain]
    cases dec t (xs.drop p) with
    | none => rfl
    | some q => obtain ⟨b, q⟩ := q; cases b <;> rfl
  | t :: u :: l, p, _ => by
    rw [dec_thn, chain]
    cases dec t (xs.drop p) with
    | none => rfl
    | some q =>
      obtain ⟨b, q⟩ := q
      cases b with
      | false => rfl
      | true =>
        simp only
        rw [chain_dec xs (u :: l) (q + p) (by simp), sh_sh, dec_mkthn (by simp), List.drop_drop, Nat.add_comm p q]
def whenBody (r : Nat → List PyData → Option PyData) : En → Out := (fSeq (fAsg (fL (r 0) (fA (fV 6) (fA (fV 1) (fA (f2 ixD (fV 5) (fC (.int 1))) fA0)))) (gN 5))
  (fIf (fOr (fB (f1 (fun d => some (.bool (isNone d))) (fV 5))) (fB (f2 eqP (f2 ixD (fV 5) (fC (.int 0))) (fC (.str "failed"))))) (fRet (fV 5)) fNext))
def isT : Dec → Bool
  | some (true, _) => true
  | _ => false
theorem when_loop {r : Nat → List PyData → Option PyData} {xs : List Str} (w : Option PyData) (a b c : Option PyData) : ∀ (l : List Task) (p : Nat) (z : Option PyData), p ≤ xs.length → (∀ t ∈ l, ∀ p : Nat, p ≤ xs.length → r 0 [enc t, .tuple (sts xs), .int (p : Int)] = some (encW (sh p (dec t (xs.drop p))))) →
    (isT (chain xs p l) = true ∧ ∃ z', loopF (gN 6) (whenBody r) (l.map enc) [w, some (.tuple (sts xs)), a, b, c, some (encW (some (true, p))), z, none, none] = .nx [w, some (.tuple (sts xs)), a, b, c, some (encW (chain xs p l)), z', none, none]) ∨
    (isT (chain xs p l) = false ∧ loopF (gN 6) (whenBody r) (l.map enc) [w, some (.tuple (sts xs)), a, b, c, some (encW (some (true, p))), z, none, none] = .rt (encW (chain xs p l)))
  | [], p, z, _, _ => .inl ⟨rfl, z, rfl⟩
  | t :: l, p, z, hp, h => by
    have q := h t List.mem_cons_self p hp
    rw [chain]
    cases e : dec t (xs.drop p) with
    | none =>
      rw [e] at q
      right
      refine ⟨rfl, ?_⟩
      simp only [sh_none, encW] at q ⊢
      simp only [List.map_cons, loopF, whenBody, runB, fSeq, fIf, fRet, fAsg, fB, f1, f2, fA, fA0, fL, fV, fC, fTup, fLst, fNext, on1, on2, gN, gT, gsC, gs0, asB, fAnd, fOr, fBnd, fBor, fNot, fVB, fIte, fAndV, fOrV, notD, negD, fO, fO0, asI, fSl, fPar, List.map_cons, List.map_nil, List.length_cons, List.length_nil, List.reduceReplicate, List.cons_append, List.nil_append, List.append_nil, List.getElem?_cons_zero, List.getElem?_cons_succ, Option.join_some, Option.join_none, List.set_cons_zero, List.set_cons_succ, Option.bind_some, Option.bind_none, Option.map_some, Option.map_none, Nat.reduceSub, Nat.reduceAdd, Nat.reduceEqDiff, if_true, if_false, Bool.false_eq_true, reduceIte, Nat.zero_add, fComp, fItems, itemsOf, extOf, wipeE, fEnum, fRng1, fRng2, fSigns, lenD, tupD, lstD, ix0, ix1, ix2, eq_s, ne_s, eq_i, ne_i, add_i, sub_i, in_t2, in_t3, List.length_map, q, encW, nn_none]
    | some v =>
      obtain ⟨y, m⟩ := v
      rw [e] at q
      have hm := dec_le _ _ _ _ e
      rw [List.length_drop] at hm
      cases y with
      | false =>
        right
        refine ⟨rfl, ?_⟩
        simp only [sh_some, encW] at q ⊢
        simp only [wd] at q ⊢
        simp only [List.map_cons, loopF, whenBody, runB, fSeq, fIf, fRet, fAsg, fB, f1, f2, fA, fA0, fL, fV, fC, fTup, fLst, fNext, on1, on2, gN, gT, gsC, gs0, asB, fAnd, fOr, fBnd, fBor, fNot, fVB, fIte, fAndV, fOrV, notD, negD, fO, fO0, asI, fSl, fPar, List.map_cons, List.map_nil, List.length_cons, List.length_nil, List.reduceReplicate, List.cons_append, List.nil_append, List.append_nil, List.getElem?_cons_zero, List.getElem?_cons_succ, Option.join_some, Option.join_none, List.set_cons_zero, List.set_cons_succ, Option.bind_some, Option.bind_none, Option.map_some, Option.map_none, Nat.reduceSub, Nat.reduceAdd, Nat.reduceEqDiff, if_true, if_false, Bool.false_eq_true, reduceIte, Nat.zero_add, fComp, fItems, itemsOf, extOf, wipeE, fEnum, fRng1, fRng2, fSigns, lenD, tupD, lstD, ix0, ix1, ix2, eq_s, ne_s, eq_i, ne_i, add_i, sub_i, in_t2, in_t3, List.length_map, q, nn_tup, w_do_do, w_do_all, w_do_any, w_do_then, w_do_without, w_do_within, w_do_done, w_do_failed, w_all_do, w_all_all, w_all_any, w_all_then, w_all_without, w_all_within, w_all_done, w_all_failed, w_any_do, w_any_all, w_any_any, w_any_then, w_any_without, w_any_within, w_any_done, w_any_failed, w_then_do, w_then_all, w_then_any, w_then_then, w_then_without, w_then_within, w_then_done, w_then_failed, w_without_do, w_without_all, w_without_any, w_without_then, w_without_without, w_without_within, w_without_done, w_without_failed, w_within_do, w_within_all, w_within_any, w_within_then, w_within_without, w_within_within, w_within_done, w_within_failed, w_done_do, w_done_all, w_done_any, w_done_then, w_done_without, w_done_within, w_done_done, w_done_failed, w_failed_do, w_failed_all, w_failed_any, w_failed_then, w_failed_without, w_failed_within, w_failed_done, w_failed_failed]
      | true =>
        have ih := when_loop (r := r) (xs := xs) w a b c l (m + p) (some (enc t)) (by omega) fun u hu => h u (List.mem_cons_of_mem _ hu)
        simp only
        have e1 : loopF (gN 6) (whenBody r) ((t :: l).map enc) [w, some (.tuple (sts xs)), a, b, c, some (encW (some (true, p))), z, none, none] = loopF (gN 6) (whenBody r) (l.map enc) [w, some (.tuple (sts xs)), a, b, c, some (encW (some (true, m + p))), some (enc t), none, none] := by
          simp only [sh_some, encW] at q ⊢
          simp only [wd] at q ⊢
          have e2 : whenBody r [w, some (.tuple (sts xs)), a, b, c, some (.tuple [.str "done", .int (p : Int)]), some (enc t), none, none] = .nx [w, some (.tuple (sts xs)), a, b, c, some (.tuple [.str "done", .int ((m + p : Nat) : Int)]), some (enc t), none, none] := by
            simp only [whenBody, runB, fSeq, fIf, fRet, fAsg, fB, f1, f2, fA, fA0, fL, fV, fC, fTup, fLst, fNext, on1, on2, gN, gT, gsC, gs0, asB, fAnd, fOr, fBnd, fBor, fNot, fVB, fIte, fAndV, fOrV, notD, negD, fO, fO0, asI, fSl, fPar, List.map_cons, List.map_nil, List.length_cons, List.length_nil, List.reduceReplicate, List.cons_append, List.nil_append, List.append_nil, List.getElem?_cons_zero, List.getElem?_cons_succ, Option.join_some, Option.join_none, List.set_cons_zero, List.set_cons_succ, Option.bind_some, Option.bind_none, Option.map_some, Option.map_none, Nat.reduceSub, Nat.reduceAdd, Nat.reduceEqDiff, if_true, if_false, Bool.false_eq_true, reduceIte, Nat.zero_add, fComp, fItems, itemsOf, extOf, wipeE, fEnum, fRng1, fRng2, fSigns, lenD, tupD, lstD, ix0, ix1, ix2, eq_s, ne_s, eq_i, ne_i, add_i, sub_i, in_t2, in_t3, List.length_map, q, nn_tup, w_do_do, w_do_all, w_do_any, w_do_then, w_do_without, w_do_within, w_do_done, w_do_failed, w_all_do, w_all_all, w_all_any, w_all_then, w_all_without, w_all_within, w_all_done, w_all_failed, w_any_do, w_any_all, w_any_any, w_any_then, w_any_without, w_any_within, w_any_done, w_any_failed, w_then_do, w_then_all, w_then_any, w_then_then, w_then_without, w_then_within, w_then_done, w_then_failed, w_without_do, w_without_all, w_without_any, w_without_then, w_without_without, w_without_within, w_without_done, w_without_failed, w_within_do, w_within_all, w_within_any, w_within_then, w_within_without, w_within_within, w_within_done, w_within_failed, w_done_do, w_done_all, w_done_any, w_done_then, w_done_without, w_done_within, w_done_done, w_done_failed, w_failed_do, w_failed_all, w_failed_any, w_failed_then, w_failed_without, w_failed_within, w_failed_done, w_failed_failed]
          simp only [List.map_cons, loopF, gN, runB, fSeq, fIf, fRet, fAsg, fB, f1, f2, fA, fA0, fL, fV, fC, fTup, fLst, fNext, on1, on2, gN, gT, gsC, gs0, asB, fAnd, fOr, fBnd, fBor, fNot, fVB, fIte, fAndV, fOrV, notD, negD, fO, fO0, asI, fSl, fPar, List.map_cons, List.map_nil, List.length_cons, List.length_nil, List.reduceReplicate, List.cons_append, List.nil_append, List.append_nil, List.getElem?_cons_zero, List.getElem?_cons_succ, Option.join_some, Option.join_none, List.set_cons_zero, List.set_cons_succ, Option.bind_some, Option.bind_none, Option.map_some, Option.map_none, Nat.reduceSub, Nat.reduceAdd, Nat.reduceEqDiff, if_true, if_false, Bool.false_eq_true, reduceIte, Nat.zero_add, fComp, fItems, itemsOf, extOf, wipeE, fEnum, fRng1, fRng2, fSigns, lenD, tupD, lstD, ix0, ix1, ix2, eq_s, ne_s, eq_i, ne_i, add_i, sub_i, in_t2, in_t3, List.length_map]
          rw [e2]
        rw [e1]
        exact ih
theorem sh_dec_one (d : Str) (n : Nat) (xs : List Str) (s : Nat) : sh s (dec (.one d ((n : Int) + 1)) xs) = ((places d s xs)[n]?).map fun p => (true, p) := by
  rw [dec_one, places_0 d xs s, List.getElem?_map]
  cases (places d 0 xs)[n]? <;> rfl
theorem G_when : ∀ (k n : Nat) (t : Task) (xs : List Str) (s : Nat), k ≤ 30 → okT k t → k ≤ n → xs.length ≤ 1000 → s ≤ xs.length → G__law_when n 0 [enc t, .tuple (sts xs), .int (s : Int)] = some (encW (sh s (dec t (xs.drop s))))
  | 0, _, _, _, _, _, h, _, _, _ => h.elim
  | k + 1, 0, _, _, _, _, _, hn, _, _ => by omega
  | k + 1, n + 1, t, xs, s, hk, h, hn, hx, hs => by
    have ih : ∀ t, okT k t → ∀ s : Nat, s ≤ xs.length → G__law_when n 0 [enc t, .tuple (sts xs), .int (s : Int)] = some (encW (sh s (dec t (xs.drop s)))) := fun t ht s hs => G_when k n t xs s (by omega) ht (by omega) hx hs
    show runB 3 9 (B__law_when (G__law_when n)) [enc t, .tuple (sts xs), .int (s : Int)] = _
    unfold B__law_when
    have hr := rng_2 hs (show xs.length ≤ 1000000 by omega)
    cases t with
    | one d m =>
      obtain ⟨j, rfl⟩ : ∃ j : Nat, m = (j : Int) + 1 := ⟨(m - 1).toNat, by have := h.2; omega⟩
      rw [sh_dec_one]
      simp only [runB, fSeq, fIf, fRet, fAsg, fB, f1, f2, fA, fA0, fL, fV, fC, fTup, fLst, fNext, on1, on2, gN, gT, gsC, gs0, asB, fAnd, fOr, fBnd, fBor, fNot, fVB, fIte, fAndV, fOrV, notD, negD, fO, fO0, asI, fSl, fPar, List.map_cons, List.map_nil, List.length_cons, List.length_nil, List.reduceReplicate, List.cons_append, List.nil_append, List.append_nil, List.getElem?_cons_zero, List.getElem?_cons_succ, Option.join_some, Option.join_none, List.set_cons_zero, List.set_cons_succ, Option.bind_some, Option.bind_none, Option.map_some, Option.map_none, Nat.reduceSub, Nat.reduceAdd, Nat.reduceEqDiff, if_true, if_false, Bool.false_eq_true, reduceIte, Nat.zero_add, fComp, fItems, itemsOf, extOf, wipeE, fEnum, fRng1, fRng2, fSigns, lenD, tupD, lstD, ix0, ix1, ix2, eq_s, ne_s, eq_i, ne_i, add_i, sub_i, in_t2, in_t3, List.length_map, enc, w_do_do, w_do_all, w_do_any, w_do_then, w_do_without, w_do_within, w_do_done, w_do_failed, w_all_do, w_all_all, w_all_any, w_all_then, w_all_without, w_all_within, w_all_done, w_all_failed, w_any_do, w_any_all, w_any_any, w_any_then, w_any_without, w_any_within, w_any_done, w_any_failed, w_then_do, w_then_all, w_then_any, w_then_then, w_then_without, w_then_within, w_then_done, w_then_failed, w_without_do, w_without_all, w_without_any, w_without_then, w_without_without, w_without_within, w_without_done, w_without_failed, w_within_do, w_within_all, w_within_any, w_within_then, w_within_without, w_within_within, w_within_done, w_within_failed, w_done_do, w_done_all, w_done_any, w_done_then, w_done_without, w_done_within, w_done_done, w_done_failed, w_failed_do, w_failed_all, w_failed_any, w_failed_then, w_failed_without, w_failed_within, w_failed_done, w_failed_failed, sts_len, hr, pl_comp _ _ _ _ _ hs, lt_i, List.length_map]
      cases e : (places d s (xs.drop s))[j]? with
      | none =>
        have : (places d s (xs.drop s)).length ≤ j := List.getElem?_eq_none_iff.mp e
        rw [decide_eq_true (by omega)]
        rfl
      | some p =>
        have : j < (places d s (xs.drop s)).length := (List.getElem?_eq_some_iff.mp e).1
        rw [decide_eq_false (by omega)]
        simp only [runB, fSeq, fIf, fRet, fAsg, fB, f1, f2, fA, fA0, fL, fV, fC, fTup, fLst, fNext, on1, on2, gN, gT, gsC, gs0, asB, fAnd, fOr, fBnd, fBor, fNot, fVB, fIte, fAndV, fOrV, notD, negD, fO, fO0, asI, fSl, fPar, List.map_cons, List.map_nil, List.length_cons, List.length_nil, List.reduceReplicate, List.cons_append, List.nil_append, List.append_nil, List.getElem?_cons_zero, List.getElem?_cons_succ, Option.join_some, Option.join_none, List.set_cons_zero, List.set_cons_succ, Option.bind_some, Option.bind_none, Option.map_some, Option.map_none, Nat.reduceSub, Nat.reduceAdd, Nat.reduceEqDiff, if_true, if_false, Bool.false_eq_true, reduceIte, Nat.zero_add, fComp, fItems, itemsOf, extOf, wipeE, fEnum, fRng1, fRng2, fSigns, lenD, tupD, lstD, ix0, ix1, ix2, eq_s, ne_s, eq_i, ne_i, add_i, sub_i, in_t2, in_t3, List.length_map, show (j : Int) + 1 - 1 = j by omega, atI_nats e]
        rfl
    | grp w ts =>
      have hc : w ≠ .thn → some (encW (gr w.end (ts.map fun t => sh s (dec t (xs.drop s))))) = some (encW (sh s (dec (.grp w ts) (xs.drop s)))) := fun hw => by
        have : gr w.end (ts.map fun t => sh s (dec t (xs.drop s))) = sh s (gr w.end (ts.map fun t => dec t (xs.drop s))) := by
          rw [← gr_sh _ _ _ (by simpa using h.1), List.map_map]
          rfl
        rw [this]
        cases w with
        | thn => exact absurd rfl hw
        | all => rw [dec_all _ _ h.1]; rfl
        | any => rw [dec_any _ _ h.1]; rfl
      have cm : ∀ (a d e f g h : Option PyData), compL (gN 6) fYes (fL (G__law_when n 0) (fA (fV 6) (fA (fV 1) (fA (fV 2) fA0)))) [a, some (.tuple (sts xs)), some (.int (s : Int)), d, e, f, none, g, h] (ts.map enc) = some ((ts.map fun t => sh s (dec t (xs.drop s))).map encW) := by
        intro a d e f g i
        rw [compL_map (e := enc) (h := fun t => encW (sh s (dec t (xs.drop s)))), List.map_map]
        · rfl
        · intro t ht
          simp only [runB, fSeq, fIf, fRet, fAsg, fB, f1, f2, fA, fA0, fL, fV, fC, fTup, fLst, fNext, on1, on2, gN, gT, gsC, gs0, asB, fAnd, fOr, fBnd, fBor, fNot, fVB, fIte, fAndV, fOrV, notD, negD, fO, fO0, asI, fSl, fPar, List.map_cons, List.map_nil, List.length_cons, List.length_nil, List.reduceReplicate, List.cons_append, List.nil_append, List.append_nil, List.getElem?_cons_zero, List.getElem?_cons_succ, Option.join_some, Option.join_none, List.set_cons_zero, List.set_cons_succ, Option.bind_some, Option.bind_none, Option.map_some, Option.map_none, Nat.reduceSub, Nat.reduceAdd, Nat.reduceEqDiff, if_true, if_false, Bool.false_eq_true, reduceIte, Nat.zero_add, fComp, fItems, itemsOf, extOf, wipeE, fEnum, fRng1, fRng2, fSigns, lenD, tupD, lstD, ix0, ix1, ix2, eq_s, ne_s, eq_i, ne_i, add_i, sub_i, in_t2, in_t3, List.length_map, ih t (h.2.2 t ht) s hs]
      have hne : (ts.map fun t => sh s (dec t (xs.drop s))) ≠ [] := by simpa using h.1
      cases w with
      | all =>
        have fg := F_when_group .all (by decide) _ hne
        rw [Gw.str_all] at fg
        rw [← hc (by decide)]
        simp only [runB, fSeq, fIf, fRet, fAsg, fB, f1, f2, fA, fA0, fL, fV, fC, fTup, fLst, fNext, on1, on2, gN, gT, gsC, gs0, asB, fAnd, fOr, fBnd, fBor, fNot, fVB, fIte, fAndV, fOrV, notD, negD, fO, fO0, asI, fSl, fPar, List.map_cons, List.map_nil, List.length_cons, List.length_nil, List.reduceReplicate, List.cons_append, List.nil_append, List.append_nil, List.getElem?_cons_zero, List.getElem?_cons_succ, Option.join_some, Option.join_none, List.set_cons_zero, List.set_cons_succ, Option.bind_some, Option.bind_none, Option.map_some, Option.map_none, Nat.reduceSub, Nat.reduceAdd, Nat.reduceEqDiff, if_true, if_false, Bool.false_eq_true, reduceIte, Nat.zero_add, fComp, fItems, itemsOf, extOf, wipeE, fEnum, fRng1, fRng2, fSigns, lenD, tupD, lstD, ix0, ix1, ix2, eq_s, ne_s, eq_i, ne_i, add_i, sub_i, in_t2, in_t3, List.length_map, enc, encs_map, Gw.str_all, w_do_do, w_do_all, w_do_any, w_do_then, w_do_without, w_do_within, w_do_done, w_do_failed, w_all_do, w_all_all, w_all_any, w_all_then, w_all_without, w_all_within, w_all_done, w_all_failed, w_any_do, w_any_all, w_any_any, w_any_then, w_any_without, w_any_within, w_any_done, w_any_failed, w_then_do, w_then_all, w_then_any, w_then_then, w_then_without, w_then_within, w_then_done, w_then_failed, w_without_do, w_without_all, w_without_any, w_without_then, w_without_without, w_without_within, w_without_done, w_without_failed, w_within_do, w_within_all, w_within_any, w_within_then, w_within_without, w_within_within, w_within_done, w_within_failed, w_done_do, w_done_all, w_done_any, w_done_then, w_done_without, w_done_within, w_done_done, w_done_failed, w_failed_do, w_failed_all, w_failed_any, w_failed_then, w_failed_without, w_failed_within, w_failed_done, w_failed_failed, cm, fg, Bool.true_or, Bool.or_true]
      | any =>
        have fg := F_when_group .any (by decide) _ hne
        rw [Gw.str_any] at fg
        rw [← hc (by decide)]
        simp only [runB, fSeq, fIf, fRet, fAsg, fB, f1, f2, fA, fA0, fL, fV, fC, fTup, fLst, fNext, on1, on2, gN, gT, gsC, gs0, asB, fAnd, fOr, fBnd, fBor, fNot, fVB, fIte, fAndV, fOrV, notD, negD, fO, fO0, asI, fSl, fPar, List.map_cons, List.map_nil, List.length_cons, List.length_nil, List.reduceReplicate, List.cons_append, List.nil_append, List.append_nil, List.getElem?_cons_zero, List.getElem?_cons_succ, Option.join_some, Option.join_none, List.set_cons_zero, List.set_cons_succ, Option.bind_some, Option.bind_none, Option.map_some, Option.map_none, Nat.reduceSub, Nat.reduceAdd, Nat.reduceEqDiff, if_true, if_false, Bool.false_eq_true, reduceIte, Nat.zero_add, fComp, fItems, itemsOf, extOf, wipeE, fEnum, fRng1, fRng2, fSigns, lenD, tupD, lstD, ix0, ix1, ix2, eq_s, ne_s, eq_i, ne_i, add_i, sub_i, in_t2, in_t3, List.length_map, enc, encs_map, Gw.str_any, w_do_do, w_do_all, w_do_any, w_do_then, w_do_without, w_do_within, w_do_done, w_do_failed, w_all_do, w_all_all, w_all_any, w_all_then, w_all_without, w_all_within, w_all_done, w_all_failed, w_any_do, w_any_all, w_any_any, w_any_then, w_any_without, w_any_within, w_any_done, w_any_failed, w_then_do, w_then_all, w_then_any, w_then_then, w_then_without, w_then_within, w_then_done, w_then_failed, w_without_do, w_without_all, w_without_any, w_without_then, w_without_without, w_without_within, w_without_done, w_without_failed, w_within_do, w_within_all, w_within_any, w_within_then, w_within_without, w_within_within, w_within_done, w_within_failed, w_done_do, w_done_all, w_done_any, w_done_then, w_done_without, w_done_within, w_done_done, w_done_failed, w_failed_do, w_failed_all, w_failed_any, w_failed_then, w_failed_without, w_failed_within, w_failed_done, w_failed_failed, cm, fg, Bool.true_or, Bool.or_true, Bool.false_or, Bool.or_false]
      | thn =>
        have wl := when_loop (r := G__law_when n) (xs := xs) (some (enc (.grp .thn ts))) (some (.int (s : Int))) (some (.str "then")) none ts s none hs fun t ht p hp => ih t (h.2.2 t ht) p hp
        rw [← chain_dec xs ts s h.1]
        simp only [enc, Gw.str_thn, encs_map, whenBody] at wl
        rw [show encW (some (true, s)) = .tuple [.str "done", .int (s : Int)] from rfl] at wl
        simp only [runB, fSeq, fIf, fRet, fAsg, fB, f1, f2, fA, fA0, fL, fV, fC, fTup, fLst, fNext, on1, on2, gN, gT, gsC, gs0, asB, fAnd, fOr, fBnd, fBor, fNot, fVB, fIte, fAndV, fOrV, notD, negD, fO, fO0, asI, fSl, fPar, List.map_cons, List.map_nil, List.length_cons, List.length_nil, List.reduceReplicate, List.cons_append, List.nil_append, List.append_nil, List.getElem?_cons_zero, List.getElem?_cons_succ, Option.join_some, Option.join_none, List.set_cons_zero, List.set_cons_succ, Option.bind_some, Option.bind_none, Option.map_some, Option.map_none, Nat.reduceSub, Nat.reduceAdd, Nat.reduceEqDiff, if_true, if_false, Bool.false_eq_true, reduceIte, Nat.zero_add, fComp, fItems, itemsOf, extOf, wipeE, fEnum, fRng1, fRng2, fSigns, lenD, tupD, lstD, ix0, ix1, ix2, eq_s, ne_s, eq_i, ne_i, add_i, sub_i, in_t2, in_t3, List.length_map, enc, encs_map, Gw.str_thn, w_do_do, w_do_all, w_do_any, w_do_then, w_do_without, w_do_within, w_do_done, w_do_failed, w_all_do, w_all_all, w_all_any, w_all_then, w_all_without, w_all_within, w_all_done, w_all_failed, w_any_do, w_any_all, w_any_any, w_any_then, w_any_without, w_any_within, w_any_done, w_any_failed, w_then_do, w_then_all, w_then_any, w_then_then, w_then_without, w_then_within, w_then_done, w_then_failed, w_without_do, w_without_all, w_without_any, w_without_then, w_without_without, w_without_within, w_without_done, w_without_failed, w_within_do, w_within_all, w_within_any, w_within_then, w_within_without, w_within_within, w_within_done, w_within_failed, w_done_do, w_done_all, w_done_any, w_done_then, w_done_without, w_done_within, w_done_done, w_done_failed, w_failed_do, w_failed_all, w_failed_any, w_failed_then, w_failed_without, w_failed_within, w_failed_done, w_failed_failed, Bool.or_self, Bool.or_false, fFor]
        rcases wl with ⟨w1, z', w2⟩ | ⟨w1, w2⟩
        · rw [w2]
          simp only [runB, fSeq, fIf, fRet, fAsg, fB, f1, f2, fA, fA0, fL, fV, fC, fTup, fLst, fNext, on1, on2, gN, gT, gsC, gs0, asB, fAnd, fOr, fBnd, fBor, fNot, fVB, fIte, fAndV, fOrV, notD, negD, fO, fO0, asI, fSl, fPar, List.map_cons, List.map_nil, List.length_cons, List.length_nil, List.reduceReplicate, List.cons_append, List.nil_append, List.append_nil, List.getElem?_cons_zero, List.getElem?_cons_succ, Option.join_some, Option.join_none, List.set_cons_zero, List.set_cons_succ, Option.bind_some, Option.bind_none, Option.map_some, Option.map_none, Nat.reduceSub, Nat.reduceAdd, Nat.reduceEqDiff, if_true, if_false, Bool.false_eq_true, reduceIte, Nat.zero_add, fComp, fItems, itemsOf, extOf, wipeE, fEnum, fRng1, fRng2, fSigns, lenD, tupD, lstD, ix0, ix1, ix2, eq_s, ne_s, eq_i, ne_i, add_i, sub_i, in_t2, in_t3, List.length_map]
        · rw [w2]
    | wout d t =>
      have q := ih t h.2 s hs
      have pc := pl_comp "without" d [enc t] xs s hs
      simp only [runB, fSeq, fIf, fRet, fAsg, fB, f1, f2, fA, fA0, fL, fV, fC, fTup, fLst, fNext, on1, on2, gN, gT, gsC, gs0, asB, fAnd, fOr, fBnd, fBor, fNot, fVB, fIte, fAndV, fOrV, notD, negD, fO, fO0, asI, fSl, fPar, List.map_cons, List.map_nil, List.length_cons, List.length_nil, List.reduceReplicate, List.cons_append, List.nil_append, List.append_nil, List.getElem?_cons_zero, List.getElem?_cons_succ, Option.join_some, Option.join_none, List.set_cons_zero, List.set_cons_succ, Option.bind_some, Option.bind_none, Option.map_some, Option.map_none, Nat.reduceSub, Nat.reduceAdd, Nat.reduceEqDiff, if_true, if_false, Bool.false_eq_true, reduceIte, Nat.zero_add, fComp, fItems, itemsOf, extOf, wipeE, fEnum, fRng1, fRng2, fSigns, lenD, tupD, lstD, ix0, ix1, ix2, eq_s, ne_s, eq_i, ne_i, add_i, sub_i, in_t2, in_t3, List.length_map, enc, w_do_do, w_do_all, w_do_any, w_do_then, w_do_without, w_do_within, w_do_done, w_do_failed, w_all_do, w_all_all, w_all_any, w_all_then, w_all_without, w_all_within, w_all_done, w_all_failed, w_any_do, w_any_all, w_any_any, w_any_then, w_any_without, w_any_within, w_any_done, w_any_failed, w_then_do, w_then_all, w_then_any, w_then_then, w_then_without, w_then_within, w_then_done, w_then_failed, w_without_do, w_without_all, w_without_any, w_without_then, w_without_without, w_without_within, w_without_done, w_without_failed, w_within_do, w_within_all, w_within_any, w_within_then, w_within_without, w_within_within, w_within_done, w_within_failed, w_done_do, w_done_all, w_done_any, w_done_then, w_done_without, w_done_within, w_done_done, w_done_failed, w_failed_do, w_failed_all, w_failed_any, w_failed_then, w_failed_without, w_failed_within, w_failed_done, w_failed_failed, Bool.or_self, Bool.or_false, q, sts_len, hr, pc, nats_ne]
      have hf : first d (xs.drop s) = (places d 0 (xs.drop s)).head? := first_places d _
      rw [dec_wout, hf, places_0]
      cases e : places d 0 (xs.drop s) with
      | nil => 
        simp only [runB, fSeq, fIf, fRet, fAsg, fB, f1, f2, fA, fA0, fL, fV, fC, fTup, fLst, fNext, on1, on2, gN, gT, gsC, gs0, asB, fAnd, fOr, fBnd, fBor, fNot, fVB, fIte, fAndV, fOrV, notD, negD, fO, fO0, asI, fSl, fPar, List.map_cons, List.map_nil, List.length_cons, List.length_nil, List.reduceReplicate, List.cons_append, List.nil_append, List.append_nil, List.getElem?_cons_zero, List.getElem?_cons_succ, Option.join_some, Option.join_none, List.set_cons_zero, List.set_cons_succ, Option.bind_some, Option.bind_none, Option.map_some, Option.map_none, Nat.reduceSub, Nat.reduceAdd, Nat.reduceEqDiff, if_true, if_false, Bool.false_eq_true, reduceIte, Nat.zero_add, fComp, fItems, itemsOf, extOf, wipeE, fEnum, fRng1, fRng2, fSigns, lenD, tupD, lstD, ix0, ix1, ix2, eq_s, ne_s, eq_i, ne_i, add_i, sub_i, in_t2, in_t3, List.length_map, List.isEmpty_nil, Bool.not_true, List.head?_nil]
      | cons p r =>
        have i0 : ∀ r' : List PyData, ixD (.list (.int (((p + s : Nat) : Int)) :: r')) (.int 0) = some (.int (((p + s : Nat) : Int))) := fun r' => by
          simp only [ixD]
          rw [atI_nn _ _ (by decide) (by simp)]
          rfl
        simp only [runB, fSeq, fIf, fRet, fAsg, fB, f1, f2, fA, fA0, fL, fV, fC, fTup, fLst, fNext, on1, on2, gN, gT, gsC, gs0, asB, fAnd, fOr, fBnd, fBor, fNot, fVB, fIte, fAndV, fOrV, notD, negD, fO, fO0, asI, fSl, fPar, List.map_cons, List.map_nil, List.length_cons, List.length_nil, List.reduceReplicate, List.cons_append, List.nil_append, List.append_nil, List.getElem?_cons_zero, List.getElem?_cons_succ, Option.join_some, Option.join_none, List.set_cons_zero, List.set_cons_succ, Option.bind_some, Option.bind_none, Option.map_some, Option.map_none, Nat.reduceSub, Nat.reduceAdd, Nat.reduceEqDiff, if_true, if_false, Bool.false_eq_true, reduceIte, Nat.zero_add, fComp, fItems, itemsOf, extOf, wipeE, fEnum, fRng1, fRng2, fSigns, lenD, tupD, lstD, ix0, ix1, ix2, eq_s, ne_s, eq_i, ne_i, add_i, sub_i, in_t2, in_t3, List.length_map, List.isEmpty_cons, Bool.not_false, List.head?_cons]
        cases e2 : dec t (xs.drop s) with
        | none =>
          simp only [sh_none, encW, nn_none, runB, fSeq, fIf, fRet, fAsg, fB, f1, f2, fA, fA0, fL, fV, fC, fTup, fLst, fNext, on1, on2, gN, gT, gsC, gs0, asB, fAnd, fOr, fBnd, fBor, fNot, fVB, fIte, fAndV, fOrV, notD, negD, fO, fO0, asI, fSl, fPar, List.map_cons, List.map_nil, List.length_cons, List.length_nil, List.reduceReplicate, List.cons_append, List.nil_append, List.append_nil, List.getElem?_cons_zero, List.getElem?_cons_succ, Option.join_some, Option.join_none, List.set_cons_zero, List.set_cons_succ, Option.bind_some, Option.bind_none, Option.map_some, Option.map_none, Nat.reduceSub, Nat.reduceAdd, Nat.reduceEqDiff, if_true, if_false, Bool.false_eq_true, reduceIte, Nat.zero_add, fComp, fItems, itemsOf, extOf, wipeE, fEnum, fRng1, fRng2, fSigns, lenD, tupD, lstD, ix0, ix1, ix2, eq_s, ne_s, eq_i, ne_i, add_i, sub_i, in_t2, in_t3, List.length_map, i0]
          rfl
        | some v =>
          obtain ⟨y, m⟩ := v
          simp only [sh_some, encW, nn_tup, runB, fSeq, fIf, fRet, fAsg, fB, f1, f2, fA, fA0, fL, fV, fC, fTup, fLst, fNext, on1, on2, gN, gT, gsC, gs0, asB, fAnd, fOr, fBnd, fBor, fNot, fVB, fIte, fAndV, fOrV, notD, negD, fO, fO0, asI, fSl, fPar, List.map_cons, List.map_nil, List.length_cons, List.length_nil, List.reduceReplicate, List.cons_append, List.nil_append, List.append_nil, List.getElem?_cons_zero, List.getElem?_cons_succ, Option.join_some, Option.join_none, List.set_cons_zero, List.set_cons_succ, Option.bind_some, Option.bind_none, Option.map_some, Option.map_none, Nat.reduceSub, Nat.reduceAdd, Nat.reduceEqDiff, if_true, if_false, Bool.false_eq_true, reduceIte, Nat.zero_add, fComp, fItems, itemsOf, extOf, wipeE, fEnum, fRng1, fRng2, fSigns, lenD, tupD, lstD, ix0, ix1, ix2, eq_s, ne_s, eq_i, ne_i, add_i, sub_i, in_t2, in_t3, List.length_map, i0, le_i]
          by_cases hpm : p ≤ m
          · rw [decide_eq_true (by omega), if_pos hpm]
            simp only [runB, fSeq, fIf, fRet, fAsg, fB, f1, f2, fA, fA0, fL, fV, fC, fTup, fLst, fNext, on1, on2, gN, gT, gsC, gs0, asB, fAnd, fOr, fBnd, fBor, fNot, fVB, fIte, fAndV, fOrV, notD, negD, fO, fO0, asI, fSl, fPar, List.map_cons, List.map_nil, List.length_cons, List.length_nil, List.reduceReplicate, List.cons_append, List.nil_append, List.append_nil, List.getElem?_cons_zero, List.getElem?_cons_succ, Option.join_some, Option.join_none, List.set_cons_zero, List.set_cons_succ, Option.bind_some, Option.bind_none, Option.map_some, Option.map_none, Nat.reduceSub, Nat.reduceAdd, Nat.reduceEqDiff, if_true, if_false, Bool.false_eq_true, reduceIte, Nat.zero_add, fComp, fItems, itemsOf, extOf, wipeE, fEnum, fRng1, fRng2, fSigns, lenD, tupD, lstD, ix0, ix1, ix2, eq_s, ne_s, eq_i, ne_i, add_i, sub_i, in_t2, in_t3, List.length_map, i0]
            rfl
          · rw [decide_eq_false (by omega), if_neg hpm]
            simp only [runB, fSeq, fIf, fRet, fAsg, fB, f1, f2, fA, fA0, fL, fV, fC, fTup, fLst, fNext, on1, on2, gN, gT, gsC, gs0, asB, fAnd, fOr, fBnd, fBor, fNot, fVB, fIte, fAndV, fOrV, notD, negD, fO, fO0, asI, fSl, fPar, List.map_cons, List.map_nil, List.length_cons, List.length_nil, List.reduceReplicate, List.cons_append, List.nil_append, List.append_nil, List.getElem?_cons_zero, List.getElem?_cons_succ, Option.join_some, Option.join_none, List.set_cons_zero, List.set_cons_succ, Option.bind_some, Option.bind_none, Option.map_some, Option.map_none, Nat.reduceSub, Nat.reduceAdd, Nat.reduceEqDiff, if_true, if_false, Bool.false_eq_true, reduceIte, Nat.zero_add, fComp, fItems, itemsOf, extOf, wipeE, fEnum, fRng1, fRng2, fSigns, lenD, tupD, lstD, ix0, ix1, ix2, eq_s, ne_s, eq_i, ne_i, add_i, sub_i, in_t2, in_t3, List.length_map]
            rfl
    | wthn m t =>
      obtain ⟨j, rfl⟩ : ∃ j : Nat, m = (j : Int) + 1 := ⟨(m - 1).toNat, by have := h.1; omega⟩
      have q := ih t h.2 s hs
      rw [dec_wthn]
      simp only [runB, fSeq, fIf, fRet, fAsg, fB, f1, f2, fA, fA0, fL, fV, fC, fTup, fLst, fNext, on1, on2, gN, gT, gsC, gs0, asB, fAnd, fOr, fBnd, fBor, fNot, fVB, fIte, fAndV, fOrV, notD, negD, fO, fO0, asI, fSl, fPar, List.map_cons, List.map_nil, List.length_cons, List.length_nil, List.reduceReplicate, List.cons_append, List.nil_append, List.append_nil, List.getElem?_cons_zero, List.getElem?_cons_succ, Option.join_some, Option.join_none, List.set_cons_zero, List.set_cons_succ, Option.bind_some, Option.bind_none, Option.map_some, Option.map_none, Nat.reduceSub, Nat.reduceAdd, Nat.reduceEqDiff, if_true, if_false, Bool.false_eq_true, reduceIte, Nat.zero_add, fComp, fItems, itemsOf, extOf, wipeE, fEnum, fRng1, fRng2, fSigns, lenD, tupD, lstD, ix0, ix1, ix2, eq_s, ne_s, eq_i, ne_i, add_i, sub_i, in_t2, in_t3, List.length_map, enc, w_do_do, w_do_all, w_do_any, w_do_then, w_do_without, w_do_within, w_do_done, w_do_failed, w_all_do, w_all_all, w_all_any, w_all_then, w_all_without, w_all_within, w_all_done, w_all_failed, w_any_do, w_any_all, w_any_any, w_any_then, w_any_without, w_any_within, w_any_done, w_any_failed, w_then_do, w_then_all, w_then_any, w_then_then, w_then_without, w_then_within, w_then_done, w_then_failed, w_without_do, w_without_all, w_without_any, w_without_then, w_without_without, w_without_within, w_without_done, w_without_failed, w_within_do, w_within_all, w_within_any, w_within_then, w_within_without, w_within_within, w_within_done, w_within_failed, w_done_do, w_done_all, w_done_any, w_done_then, w_done_without, w_done_within, w_done_done, w_done_failed, w_failed_do, w_failed_all, w_failed_any, w_failed_then, w_failed_without, w_failed_within, w_failed_done, w_failed_failed, Bool.or_self, Bool.or_false, q]
      cases e2 : dec t (xs.drop s) with
      | none =>
        simp only [sh_none, encW, nn_none, runB, fSeq, fIf, fRet, fAsg, fB, f1, f2, fA, fA0, fL, fV, fC, fTup, fLst, fNext, on1, on2, gN, gT, gsC, gs0, asB, fAnd, fOr, fBnd, fBor, fNot, fVB, fIte, fAndV, fOrV, notD, negD, fO, fO0, asI, fSl, fPar, List.map_cons, List.map_nil, List.length_cons, List.length_nil, List.reduceReplicate, List.cons_append, List.nil_append, List.append_nil, List.getElem?_cons_zero, List.getElem?_cons_succ, Option.join_some, Option.join_none, List.set_cons_zero, List.set_cons_succ, Option.bind_some, Option.bind_none, Option.map_some, Option.map_none, Nat.reduceSub, Nat.reduceAdd, Nat.reduceEqDiff, if_true, if_false, Bool.false_eq_true, reduceIte, Nat.zero_add, fComp, fItems, itemsOf, extOf, wipeE, fEnum, fRng1, fRng2, fSigns, lenD, tupD, lstD, ix0, ix1, ix2, eq_s, ne_s, eq_i, ne_i, add_i, sub_i, in_t2, in_t3, List.length_map, le_i, Bool.not_true, sts_len, List.length_drop]
        by_cases hl : j + 1 ≤ xs.length - s
        · rw [decide_eq_true (by omega), if_pos hl, int_t, Option.bind_some, lst1, sh_some]
          show some (PyData.tuple [.str "failed", .int ((s : Int) + ((j : Int) + 1))]) = some (.tuple [.str "failed", .int ((j + 1 + s : Nat) : Int)])
          rw [show (s : Int) + ((j : Int) + 1) = ((j + 1 + s : Nat) : Int) by omega]
        · rw [decide_eq_false (by omega), if_neg hl, int_f, Option.bind_some, lst0]
          rfl
      | some v =>
        obtain ⟨y, m⟩ := v
        have hm := dec_le _ _ _ _ e2
        rw [List.length_drop] at hm
        simp only [sh_some, encW, nn_tup, runB, fSeq, fIf, fRet, fAsg, fB, f1, f2, fA, fA0, fL, fV, fC, fTup, fLst, fNext, on1, on2, gN, gT, gsC, gs0, asB, fAnd, fOr, fBnd, fBor, fNot, fVB, fIte, fAndV, fOrV, notD, negD, fO, fO0, asI, fSl, fPar, List.map_cons, List.map_nil, List.length_cons, List.length_nil, List.reduceReplicate, List.cons_append, List.nil_append, List.append_nil, List.getElem?_cons_zero, List.getElem?_cons_succ, Option.join_some, Option.join_none, List.set_cons_zero, List.set_cons_succ, Option.bind_some, Option.bind_none, Option.map_some, Option.map_none, Nat.reduceSub, Nat.reduceAdd, Nat.reduceEqDiff, if_true, if_false, Bool.false_eq_true, reduceIte, Nat.zero_add, fComp, fItems, itemsOf, extOf, wipeE, fEnum, fRng1, fRng2, fSigns, lenD, tupD, lstD, ix0, ix1, ix2, eq_s, ne_s, eq_i, ne_i, add_i, sub_i, in_t2, in_t3, List.length_map, le_i, Bool.not_false, sts_len]
        by_cases hl : m ≤ j + 1
        · rw [decide_eq_true (by omega), if_pos hl]
          simp only [runB, fSeq, fIf, fRet, fAsg, fB, f1, f2, fA, fA0, fL, fV, fC, fTup, fLst, fNext, on1, on2, gN, gT, gsC, gs0, asB, fAnd, fOr, fBnd, fBor, fNot, fVB, fIte, fAndV, fOrV, notD, negD, fO, fO0, asI, fSl, fPar, List.map_cons, List.map_nil, List.length_cons, List.length_nil, List.reduceReplicate, List.cons_append, List.nil_append, List.append_nil, List.getElem?_cons_zero, List.getElem?_cons_succ, Option.join_some, Option.join_none, List.set_cons_zero, List.set_cons_succ, Option.bind_some, Option.bind_none, Option.map_some, Option.map_none, Nat.reduceSub, Nat.reduceAdd, Nat.reduceEqDiff, if_true, if_false, Bool.false_eq_true, reduceIte, Nat.zero_add, fComp, fItems, itemsOf, extOf, wipeE, fEnum, fRng1, fRng2, fSigns, lenD, tupD, lstD, ix0, ix1, ix2, eq_s, ne_s, eq_i, ne_i, add_i, sub_i, in_t2, in_t3, List.length_map]
          rfl
        · rw [decide_eq_false (by omega), if_neg hl]
          simp only [runB, fSeq, fIf, fRet, fAsg, fB, f1, f2, fA, fA0, fL, fV, fC, fTup, fLst, fNext, on1, on2, gN, gT, gsC, gs0, asB, fAnd, fOr, fBnd, fBor, fNot, fVB, fIte, fAndV, fOrV, notD, negD, fO, fO0, asI, fSl, fPar, List.map_cons, List.map_nil, List.length_cons, List.length_nil, List.reduceReplicate, List.cons_append, List.nil_append, List.append_nil, List.getElem?_cons_zero, List.getElem?_cons_succ, Option.join_some, Option.join_none, List.set_cons_zero, List.set_cons_succ, Option.bind_some, Option.bind_none, Option.map_some, Option.map_none, Nat.reduceSub, Nat.reduceAdd, Nat.reduceEqDiff, if_true, if_false, Bool.false_eq_true, reduceIte, Nat.zero_add, fComp, fItems, itemsOf, extOf, wipeE, fEnum, fRng1, fRng2, fSigns, lenD, tupD, lstD, ix0, ix1, ix2, eq_s, ne_s, eq_i, ne_i, add_i, sub_i, in_t2, in_t3, List.length_map, le_i, sts_len]
          rw [decide_eq_true (by omega), int_t, Option.bind_some, lst1, sh_some]
          show some (PyData.tuple [.str "failed", .int ((s : Int) + ((j : Int) + 1))]) = some (.tuple [.str "failed", .int ((j + 1 + s : Nat) : Int)])
          rw [show (s : Int) + ((j : Int) + 1) = ((j + 1 + s : Nat) : Int) by omega]
theorem F_when {k : Nat} {t : Task} (hk : k ≤ 12) (h : okT k t) {xs : List Str} (hx : xs.length ≤ 1000) : F__law_when [enc t, .tuple (sts xs), .int 0] = some (encW (dec t xs)) := by
  have := G_when k 24 t xs 0 (by omega) h (by omega) hx (by omega)
  rw [sh_0, List.drop_zero] at this
  exact this
end Tk

namespace Tk
open PySem L2 Tl
theorem dds_len (n most : Int) (h0 : 0 ≤ most) (h : most ≤ 100) : (dds n most).length ≤ 100 := by
  have := mod_b n (most + 1) (by omega)
  simp [dds]
  omega
def bR : Bool → Res
  | true => .done
  | false => .failed
theorem tell_shape (xs : List Str) (n : Nat) (t : Task) : (dec t xs = none ∧ ∃ u, tell n t xs = (.left u, none)) ∨ ∃ b p, dec t xs = some (b, p) ∧ tell n t xs = (bR b, some ((p : Int) + n)) := by
  have h := tell_dec xs n t
  cases e : dec t xs with
  | none => rw [e] at h; exact .inl ⟨rfl, h⟩
  | some q =>
    rw [e] at h
    obtain ⟨b, p⟩ := q
    cases b <;> exact .inr ⟨_, _, rfl, h⟩
theorem encR_b (b : Bool) : encR (bR b) = .str (wd b) := by cases b <;> rfl
theorem encR_left (u : Task) : encR (.left u) = enc u := rfl
theorem ne_W {a b : Dec} (h : a = b) : neP (encW a) (encW b) = some (.bool false) := by rw [h]; exact neP_self (encW_shaped b)
theorem eq_W {a b : Dec} (h : a = b) : eqP (encW a) (encW b) = some (.bool true) := by rw [h]; exact eqP_self (encW_shaped b)
theorem F_end {k : Nat} {t : Task} (hk : k ≤ 12) (h : okT k t) (xs : List Str) : F__law_end [enc t, .tuple (sts xs)] = some (encW (dec t xs)) := by
  have ft := F_tell hk h xs
  unfold F__law_end B__law_end
  rcases tell_shape xs 0 t with ⟨d, u, e⟩ | ⟨b, p, d, e⟩
  · rw [e] at ft
    simp only [encP, encR_left, encO] at ft
    simp only [runB, fSeq, fIf, fRet, fAsg, fB, f1, f2, fA, fA0, fL, fV, fC, fTup, fLst, fNext, on1, on2, gN, gT, gsC, gs0, asB, fAnd, fOr, fBnd, fBor, fNot, fVB, fIte, fAndV, fOrV, notD, negD, fO, fO0, asI, fSl, fPar, List.map_cons, List.map_nil, List.length_cons, List.length_nil, List.reduceReplicate, List.cons_append, List.nil_append, List.append_nil, List.getElem?_cons_zero, List.getElem?_cons_succ, Option.join_some, Option.join_none, List.set_cons_zero, List.set_cons_succ, Option.bind_some, Option.bind_none, Option.map_some, Option.map_none, Nat.reduceSub, Nat.reduceAdd, Nat.reduceEqDiff, if_true, if_false, Bool.false_eq_true, reduceIte, Nat.zero_add, fComp, fItems, itemsOf, extOf, wipeE, fEnum, fRng1, fRng2, fSigns, lenD, tupD, lstD, ix0, ix1, ix2, eq_s, ne_s, eq_i, ne_i, add_i, sub_i, in_t2, in_t3, List.length_map, ft, over_enc, d, encW]
  · rw [e] at ft
    simp only [encP, encR_b, encO, show (p : Int) + ((0 : Nat) : Int) = (p : Int) by omega] at ft
    simp only [runB, fSeq, fIf, fRet, fAsg, fB, f1, f2, fA, fA0, fL, fV, fC, fTup, fLst, fNext, on1, on2, gN, gT, gsC, gs0, asB, fAnd, fOr, fBnd, fBor, fNot, fVB, fIte, fAndV, fOrV, notD, negD, fO, fO0, asI, fSl, fPar, List.map_cons, List.map_nil, List.length_cons, List.length_nil, List.reduceReplicate, List.cons_append, List.nil_append, List.append_nil, List.getElem?_cons_zero, List.getElem?_cons_succ, Option.join_some, Option.join_none, List.set_cons_zero, List.set_cons_succ, Option.bind_some, Option.bind_none, Option.map_some, Option.map_none, Nat.reduceSub, Nat.reduceAdd, Nat.reduceEqDiff, if_true, if_false, Bool.false_eq_true, reduceIte, Nat.zero_add, fComp, fItems, itemsOf, extOf, wipeE, fEnum, fRng1, fRng2, fSigns, lenD, tupD, lstD, ix0, ix1, ix2, eq_s, ne_s, eq_i, ne_i, add_i, sub_i, in_t2, in_t3, List.length_map, ft, over_str, d, encW]
/-! ### the size -/
mutual
def siz : Task → Nat
  | .one _ _ => 1
  | .grp _ ts => 1 + sizs ts
  | .wout _ t => 1 + siz t
  | .wthn _ t => 1 + siz t
def sizs : List Task → Nat
  | [] => 0
  | t :: ts => siz t + sizs ts
end
theorem sizs_sum : ∀ ts : List Task, ((ts.map fun t => (siz t : Int)).sum) = (sizs ts : Int)
  | [] => rfl
  | t :: ts => by
    have ih := sizs_sum ts
    simp only [List.map_cons, List.sum_cons, sizs]
    omega
theorem asIs_map {α : Type} (f : α → Int) : ∀ l : List α, asIs (l.map fun a => PyData.int (f a)) = some (l.map f)
  | [] => rfl
  | x :: r => by simp only [List.map_cons, asIs, asIs_map f r, Option.bind_some, Option.map_some]
theorem sum_siz (ts : List Task) : sumD (.list (ts.map fun t => PyData.int (siz t : Int))) = some (.int (sizs ts : Int)) := by
  simp only [sumD, onL, asIs_map, Option.map_some, sizs_sum]
theorem sum_siz1 (t : Task) : sumD (.list [PyData.int (siz t : Int)]) = some (.int (siz t : Int)) := by
  have := sum_siz [t]
  simpa [sizs] using this
theorem cut2 (a b c : PyData) : cutL [a, b, c] (some 2) none = [c] := rfl
theorem F_in_one (d : Str) (n : Int) : F_tasks_in [enc (.one d n)] = some (.tuple []) := by
  unfold F_tasks_in B_tasks_in
  simp only [runB, fSeq, fIf, fRet, fAsg, fB, f1, f2, fA, fA0, fL, fV, fC, fTup, fLst, fNext, on1, on2, gN, gT, gsC, gs0, asB, fAnd, fOr, fBnd, fBor, fNot, fVB, fIte, fAndV, fOrV, notD, negD, fO, fO0, asI, fSl, fPar, List.map_cons, List.map_nil, List.length_cons, List.length_nil, List.reduceReplicate, List.cons_append, List.nil_append, List.append_nil, List.getElem?_cons_zero, List.getElem?_cons_succ, Option.join_some, Option.join_none, List.set_cons_zero, List.set_cons_succ, Option.bind_some, Option.bind_none, Option.map_some, Option.map_none, Nat.reduceSub, Nat.reduceAdd, Nat.reduceEqDiff, if_true, if_false, Bool.false_eq_true, reduceIte, Nat.zero_add, fComp, fItems, itemsOf, extOf, wipeE, fEnum, fRng1, fRng2, fSigns, lenD, tupD, lstD, ix0, ix1, ix2, eq_s, ne_s, eq_i, ne_i, add_i, sub_i, in_t2, in_t3, List.length_map, enc, w_do_do, w_do_all, w_do_any, w_do_then, w_do_without, w_do_within, w_do_done, w_do_failed, w_all_do, w_all_all, w_all_any, w_all_then, w_all_without, w_all_within, w_all_done, w_all_failed, w_any_do, w_any_all, w_any_any, w_any_then, w_any_without, w_any_within, w_any_done, w_any_failed, w_then_do, w_then_all, w_then_any, w_then_then, w_then_without, w_then_within, w_then_done, w_then_failed, w_without_do, w_without_all, w_without_any, w_without_then, w_without_without, w_without_within, w_without_done, w_without_failed, w_within_do, w_within_all, w_within_any, w_within_then, w_within_without, w_within_within, w_within_done, w_within_failed, w_done_do, w_done_all, w_done_any, w_done_then, w_done_without, w_done_within, w_done_done, w_done_failed, w_failed_do, w_failed_all, w_failed_any, w_failed_then, w_failed_without, w_failed_within, w_failed_done, w_failed_failed, Bool.or_self]
theorem F_in_grp (w : Gw) (ts : List Task) : F_tasks_in [enc (.grp w ts)] = some (.tuple (ts.map enc)) := by
  unfold F_tasks_in B_tasks_in
  cases w
  · simp only [runB, fSeq, fIf, fRet, fAsg, fB, f1, f2, fA, fA0, fL, fV, fC, fTup, fLst, fNext, on1, on2, gN, gT, gsC, gs0, asB, fAnd, fOr, fBnd, fBor, fNot, fVB, fIte, fAndV, fOrV, notD, negD, fO, fO0, asI, fSl, fPar, List.map_cons, List.map_nil, List.length_cons, List.length_nil, List.reduceReplicate, List.cons_append, List.nil_append, List.append_nil, List.getElem?_cons_zero, List.getElem?_cons_succ, Option.join_some, Option.join_none, List.set_cons_zero, List.set_cons_succ, Option.bind_some, Option.bind_none, Option.map_some, Option.map_none, Nat.reduceSub, Nat.reduceAdd, Nat.reduceEqDiff, if_true, if_false, Bool.false_eq_true, reduceIte, Nat.zero_add, fComp, fItems, itemsOf, extOf, wipeE, fEnum, fRng1, fRng2, fSigns, lenD, tupD, lstD, ix0, ix1, ix2, eq_s, ne_s, eq_i, ne_i, add_i, sub_i, in_t2, in_t3, List.length_map, enc, encs_map, Gw.str_all, w_do_do, w_do_all, w_do_any, w_do_then, w_do_without, w_do_within, w_do_done, w_do_failed, w_all_do, w_all_all, w_all_any, w_all_then, w_all_without, w_all_within, w_all_done, w_all_failed, w_any_do, w_any_all, w_any_any, w_any_then, w_any_without, w_any_within, w_any_done, w_any_failed, w_then_do, w_then_all, w_then_any, w_then_then, w_then_without, w_then_within, w_then_done, w_then_failed, w_without_do, w_without_all, w_without_any, w_without_then, w_without_without, w_without_within, w_without_done, w_without_failed, w_within_do, w_within_all, w_within_any, w_within_then, w_within_without, w_within_within, w_within_done, w_within_failed, w_done_do, w_done_all, w_done_any, w_done_then, w_done_without, w_done_within, w_done_done, w_done_failed, w_failed_do, w_failed_all, w_failed_any, w_failed_then, w_failed_without, w_failed_within, w_failed_done, w_failed_failed, Bool.true_or]
  · simp only [runB, fSeq, fIf, fRet, fAsg, fB, f1, f2, fA, fA0, fL, fV, fC, fTup, fLst, fNext, on1, on2, gN, gT, gsC, gs0, asB, fAnd, fOr, fBnd, fBor, fNot, fVB, fIte, fAndV, fOrV, notD, negD, fO, fO0, asI, fSl, fPar, List.map_cons, List.map_nil, List.length_cons, List.length_nil, List.reduceReplicate, List.cons_append, List.nil_append, List.append_nil, List.getElem?_cons_zero, List.getElem?_cons_succ, Option.join_some, Option.join_none, List.set_cons_zero, List.set_cons_succ, Option.bind_some, Option.bind_none, Option.map_some, Option.map_none, Nat.reduceSub, Nat.reduceAdd, Nat.reduceEqDiff, if_true, if_false, Bool.false_eq_true, reduceIte, Nat.zero_add, fComp, fItems, itemsOf, extOf, wipeE, fEnum, fRng1, fRng2, fSigns, lenD, tupD, lstD, ix0, ix1, ix2, eq_s, ne_s, eq_i, ne_i, add_i, sub_i, in_t2, in_t3, List.length_map, enc, encs_map, Gw.str_any, w_do_do, w_do_all, w_do_any, w_do_then, w_do_without, w_do_within, w_do_done, w_do_failed, w_all_do, w_all_all, w_all_any, w_all_then, w_all_without, w_all_within, w_all_done, w_all_failed, w_any_do, w_any_all, w_any_any, w_any_then, w_any_without, w_any_within, w_any_done, w_any_failed, w_then_do, w_then_all, w_then_any, w_then_then, w_then_without, w_then_within, w_then_done, w_then_failed, w_without_do, w_without_all, w_without_any, w_without_then, w_without_without, w_without_within, w_without_done, w_without_failed, w_within_do, w_within_all, w_within_any, w_within_then, w_within_without, w_within_within, w_within_done, w_within_failed, w_done_do, w_done_all, w_done_any, w_done_then, w_done_without, w_done_within, w_done_done, w_done_failed, w_failed_do, w_failed_all, w_failed_any, w_failed_then, w_failed_without, w_failed_within, w_failed_done, w_failed_failed, Bool.true_or, Bool.or_true]
  · simp only [runB, fSeq, fIf, fRet, fAsg, fB, f1, f2, fA, fA0, fL, fV, fC, fTup, fLst, fNext, on1, on2, gN, gT, gsC, gs0, asB, fAnd, fOr, fBnd, fBor, fNot, fVB, fIte, fAndV, fOrV, notD, negD, fO, fO0, asI, fSl, fPar, List.map_cons, List.map_nil, List.length_cons, List.length_nil, List.reduceReplicate, List.cons_append, List.nil_append, List.append_nil, List.getElem?_cons_zero, List.getElem?_cons_succ, Option.join_some, Option.join_none, List.set_cons_zero, List.set_cons_succ, Option.bind_some, Option.bind_none, Option.map_some, Option.map_none, Nat.reduceSub, Nat.reduceAdd, Nat.reduceEqDiff, if_true, if_false, Bool.false_eq_true, reduceIte, Nat.zero_add, fComp, fItems, itemsOf, extOf, wipeE, fEnum, fRng1, fRng2, fSigns, lenD, tupD, lstD, ix0, ix1, ix2, eq_s, ne_s, eq_i, ne_i, add_i, sub_i, in_t2, in_t3, List.length_map, enc, encs_map, Gw.str_thn, w_do_do, w_do_all, w_do_any, w_do_then, w_do_without, w_do_within, w_do_done, w_do_failed, w_all_do, w_all_all, w_all_any, w_all_then, w_all_without, w_all_within, w_all_done, w_all_failed, w_any_do, w_any_all, w_any_any, w_any_then, w_any_without, w_any_within, w_any_done, w_any_failed, w_then_do, w_then_all, w_then_any, w_then_then, w_then_without, w_then_within, w_then_done, w_then_failed, w_without_do, w_without_all, w_without_any, w_without_then, w_without_without, w_without_within, w_without_done, w_without_failed, w_within_do, w_within_all, w_within_any, w_within_then, w_within_without, w_within_within, w_within_done, w_within_failed, w_done_do, w_done_all, w_done_any, w_done_then, w_done_without, w_done_within, w_done_done, w_done_failed, w_failed_do, w_failed_all, w_failed_any, w_failed_then, w_failed_without, w_failed_within, w_failed_done, w_failed_failed, Bool.true_or, Bool.or_true]
theorem F_in_wout (d : Str) (t : Task) : F_tasks_in [enc (.wout d t)] = some (.tuple [enc t]) := by
  unfold F_tasks_in B_tasks_in
  simp only [runB, fSeq, fIf, fRet, fAsg, fB, f1, f2, fA, fA0, fL, fV, fC, fTup, fLst, fNext, on1, on2, gN, gT, gsC, gs0, asB, fAnd, fOr, fBnd, fBor, fNot, fVB, fIte, fAndV, fOrV, notD, negD, fO, fO0, asI, fSl, fPar, List.map_cons, List.map_nil, List.length_cons, List.length_nil, List.reduceReplicate, List.cons_append, List.nil_append, List.append_nil, List.getElem?_cons_zero, List.getElem?_cons_succ, Option.join_some, Option.join_none, List.set_cons_zero, List.set_cons_succ, Option.bind_some, Option.bind_none, Option.map_some, Option.map_none, Nat.reduceSub, Nat.reduceAdd, Nat.reduceEqDiff, if_true, if_false, Bool.false_eq_true, reduceIte, Nat.zero_add, fComp, fItems, itemsOf, extOf, wipeE, fEnum, fRng1, fRng2, fSigns, lenD, tupD, lstD, ix0, ix1, ix2, eq_s, ne_s, eq_i, ne_i, add_i, sub_i, in_t2, in_t3, List.length_map, enc, w_do_do, w_do_all, w_do_any, w_do_then, w_do_without, w_do_within, w_do_done, w_do_failed, w_all_do, w_all_all, w_all_any, w_all_then, w_all_without, w_all_within, w_all_done, w_all_failed, w_any_do, w_any_all, w_any_any, w_any_then, w_any_without, w_any_within, w_any_done, w_any_failed, w_then_do, w_then_all, w_then_any, w_then_then, w_then_without, w_then_within, w_then_done, w_then_failed, w_without_do, w_without_all, w_without_any, w_without_then, w_without_without, w_without_within, w_without_done, w_without_failed, w_within_do, w_within_all, w_within_any, w_within_then, w_within_without, w_within_within, w_within_done, w_within_failed, w_done_do, w_done_all, w_done_any, w_done_then, w_done_without, w_done_within, w_done_done, w_done_failed, w_failed_do, w_failed_all, w_failed_any, w_failed_then, w_failed_without, w_failed_within, w_failed_done, w_failed_failed, Bool.or_self, slD, cut2]
theorem F_in_wthn (n : Int) (t : Task) : F_tasks_in [enc (.wthn n t)] = some (.tuple [enc t]) := by
  unfold F_tasks_in B_tasks_in
  simp only [runB, fSeq, fIf, fRet, fAsg, fB, f1, f2, fA, fA0, fL, fV, fC, fTup, fLst, fNext, on1, on2, gN, gT, gsC, gs0, asB, fAnd, fOr, fBnd, fBor, fNot, fVB, fIte, fAndV, fOrV, notD, negD, fO, fO0, asI, fSl, fPar, List.map_cons, List.map_nil, List.length_cons, List.length_nil, List.reduceReplicate, List.cons_append, List.nil_append, List.append_nil, List.getElem?_cons_zero, List.getElem?_cons_succ, Option.join_some, Option.join_none, List.set_cons_zero, List.set_cons_succ, Option.bind_some, Option.bind_none, Option.map_some, Option.map_none, Nat.reduceSub, Nat.reduceAdd, Nat.reduceEqDiff, if_true, if_false, Bool.false_eq_true, reduceIte, Nat.zero_add, fComp, fItems, itemsOf, extOf, wipeE, fEnum, fRng1, fRng2, fSigns, lenD, tupD, lstD, ix0, ix1, ix2, eq_s, ne_s, eq_i, ne_i, add_i, sub_i, in_t2, in_t3, List.length_map, enc, w_do_do, w_do_all, w_do_any, w_do_then, w_do_without, w_do_within, w_do_done, w_do_failed, w_all_do, w_all_all, w_all_any, w_all_then, w_all_without, w_all_within, w_all_done, w_all_failed, w_any_do, w_any_all, w_any_any, w_any_then, w_any_without, w_any_within, w_any_done, w_any_failed, w_then_do, w_then_all, w_then_any, w_then_then, w_then_without, w_then_within, w_then_done, w_then_failed, w_without_do, w_without_all, w_without_any, w_without_then, w_without_without, w_without_within, w_without_done, w_without_failed, w_within_do, w_within_all, w_within_any, w_within_then, w_within_without, w_within_within, w_within_done, w_within_failed, w_done_do, w_done_all, w_done_any, w_done_then, w_done_without, w_done_within, w_done_done, w_done_failed, w_failed_do, w_failed_all, w_failed_any, w_failed_then, w_failed_without, w_failed_within, w_failed_done, w_failed_failed, Bool.or_self, slD, cut2]
theorem G_siz : ∀ (k n : Nat) (t : Task), okT k t → k ≤ n → G_size n 0 [enc t] = some (.int (siz t : Int))
  | 0, _, _, h, _ => h.elim
  | k + 1, 0, _, _, hn => by omega
  | k + 1, n + 1, t, h, hn => by
    have ih : ∀ t, okT k t → G_size n 0 [enc t] = some (.int (siz t : Int)) := fun t ht => G_siz k n t ht (by omega)
    show runB 1 2 (B_size (G_size n)) [enc t] = _
    unfold B_size
    have cm : ∀ (ts : List Task) (a : Option PyData), (∀ t ∈ ts, okT k t) → compL (gN 1) fYes (fL (G_size n 0) (fA (fV 1) fA0)) [a, none] (ts.map enc) = some (ts.map fun t => PyData.int (siz t : Int)) := by
      intro ts a hts
      rw [compL_map (e := enc) (h := fun t => PyData.int (siz t : Int))]
      intro t ht
      simp only [runB, fSeq, fIf, fRet, fAsg, fB, f1, f2, fA, fA0, fL, fV, fC, fTup, fLst, fNext, on1, on2, gN, gT, gsC, gs0, asB, fAnd, fOr, fBnd, fBor, fNot, fVB, fIte, fAndV, fOrV, notD, negD, fO, fO0, asI, fSl, fPar, List.map_cons, List.map_nil, List.length_cons, List.length_nil, List.reduceReplicate, List.cons_append, List.nil_append, List.append_nil, List.getElem?_cons_zero, List.getElem?_cons_succ, Option.join_some, Option.join_none, List.set_cons_zero, List.set_cons_succ, Option.bind_some, Option.bind_none, Option.map_some, Option.map_none, Nat.reduceSub, Nat.reduceAdd, Nat.reduceEqDiff, if_true, if_false, Bool.false_eq_true, reduceIte, Nat.zero_add, fComp, fItems, itemsOf, extOf, wipeE, fEnum, fRng1, fRng2, fSigns, lenD, tupD, lstD, ix0, ix1, ix2, eq_s, ne_s, eq_i, ne_i, add_i, sub_i, in_t2, in_t3, List.length_map, ih t (hts t ht)]
    cases t with
    | one d m =>
      simp only [runB, fSeq, fIf, fRet, fAsg, fB, f1, f2, fA, fA0, fL, fV, fC, fTup, fLst, fNext, on1, on2, gN, gT, gsC, gs0, asB, fAnd, fOr, fBnd, fBor, fNot, fVB, fIte, fAndV, fOrV, notD, negD, fO, fO0, asI, fSl, fPar, List.map_cons, List.map_nil, List.length_cons, List.length_nil, List.reduceReplicate, List.cons_append, List.nil_append, List.append_nil, List.getElem?_cons_zero, List.getElem?_cons_succ, Option.join_some, Option.join_none, List.set_cons_zero, List.set_cons_succ, Option.bind_some, Option.bind_none, Option.map_some, Option.map_none, Nat.reduceSub, Nat.reduceAdd, Nat.reduceEqDiff, if_true, if_false, Bool.false_eq_true, reduceIte, Nat.zero_add, fComp, fItems, itemsOf, extOf, wipeE, fEnum, fRng1, fRng2, fSigns, lenD, tupD, lstD, ix0, ix1, ix2, eq_s, ne_s, eq_i, ne_i, add_i, sub_i, in_t2, in_t3, List.length_map, F_in_one, compL]
      rfl
    | grp w ts =>
      simp only [runB, fSeq, fIf, fRet, fAsg, fB, f1, f2, fA, fA0, fL, fV, fC, fTup, fLst, fNext, on1, on2, gN, gT, gsC, gs0, asB, fAnd, fOr, fBnd, fBor, fNot, fVB, fIte, fAndV, fOrV, notD, negD, fO, fO0, asI, fSl, fPar, List.map_cons, List.map_nil, List.length_cons, List.length_nil, List.reduceReplicate, List.cons_append, List.nil_append, List.append_nil, List.getElem?_cons_zero, List.getElem?_cons_succ, Option.join_some, Option.join_none, List.set_cons_zero, List.set_cons_succ, Option.bind_some, Option.bind_none, Option.map_some, Option.map_none, Nat.reduceSub, Nat.reduceAdd, Nat.reduceEqDiff, if_true, if_false, Bool.false_eq_true, reduceIte, Nat.zero_add, fComp, fItems, itemsOf, extOf, wipeE, fEnum, fRng1, fRng2, fSigns, lenD, tupD, lstD, ix0, ix1, ix2, eq_s, ne_s, eq_i, ne_i, add_i, sub_i, in_t2, in_t3, List.length_map, F_in_grp, cm ts _ h.2.2, sum_siz, siz]
      first
        | rfl
        | (congr 2; omega)
    | wout d t =>
      have c1 := cm [t] (some (enc (.wout d t))) fun u hu => by
        rw [List.mem_singleton.mp hu]
        exact h.2
      simp only [List.map_cons, List.map_nil] at c1
      simp only [runB, fSeq, fIf, fRet, fAsg, fB, f1, f2, fA, fA0, fL, fV, fC, fTup, fLst, fNext, on1, on2, gN, gT, gsC, gs0, asB, fAnd, fOr, fBnd, fBor, fNot, fVB, fIte, fAndV, fOrV, notD, negD, fO, fO0, asI, fSl, fPar, List.map_cons, List.map_nil, List.length_cons, List.length_nil, List.reduceReplicate, List.cons_append, List.nil_append, List.append_nil, List.getElem?_cons_zero, List.getElem?_cons_succ, Option.join_some, Option.join_none, List.set_cons_zero, List.set_cons_succ, Option.bind_some, Option.bind_none, Option.map_some, Option.map_none, Nat.reduceSub, Nat.reduceAdd, Nat.reduceEqDiff, if_true, if_false, Bool.false_eq_true, reduceIte, Nat.zero_add, fComp, fItems, itemsOf, extOf, wipeE, fEnum, fRng1, fRng2, fSigns, lenD, tupD, lstD, ix0, ix1, ix2, eq_s, ne_s, eq_i, ne_i, add_i, sub_i, in_t2, in_t3, List.length_map, F_in_wout, c1, sum_siz1, siz]
      first
        | rfl
        | (congr 2; omega)
    | wthn m t =>
      have c1 := cm [t] (some (enc (.wthn m t))) fun u hu => by
        rw [List.mem_singleton.mp hu]
        exact h.2
      simp only [List.map_cons, List.map_nil] at c1
      simp only [runB, fSeq, fIf, fRet, fAsg, fB, f1, f2, fA, fA0, fL, fV, fC, fTup, fLst, fNext, on1, on2, gN, gT, gsC, gs0, asB, fAnd, fOr, fBnd, fBor, fNot, fVB, fIte, fAndV, fOrV, notD, negD, fO, fO0, asI, fSl, fPar, List.map_cons, List.map_nil, List.length_cons, List.length_nil, List.reduceReplicate, List.cons_append, List.nil_append, List.append_nil, List.getElem?_cons_zero, List.getElem?_cons_succ, Option.join_some, Option.join_none, List.set_cons_zero, List.set_cons_succ, Option.bind_some, Option.bind_none, Option.map_some, Option.map_none, Nat.reduceSub, Nat.reduceAdd, Nat.reduceEqDiff, if_true, if_false, Bool.false_eq_true, reduceIte, Nat.zero_add, fComp, fItems, itemsOf, extOf, wipeE, fEnum, fRng1, fRng2, fSigns, lenD, tupD, lstD, ix0, ix1, ix2, eq_s, ne_s, eq_i, ne_i, add_i, sub_i, in_t2, in_t3, List.length_map, F_in_wthn, c1, sum_siz1, siz]
      first
        | rfl
        | (congr 2; omega)
theorem F_siz {k : Nat} {t : Task} (hk : k ≤ 20) (h : okT k t) : F_size [enc t] = some (.int (siz t : Int)) := G_siz k 24 t h (by omega)
/-! ### the deeds named -/
def nmT (P : Str → Prop) : Nat → Task → Prop
  | 0, _ => False
  | _ + 1, .one d _ => P d
  | k + 1, .grp _ ts => ∀ t ∈ ts, nmT P k t
  | k + 1, .wout d t => P d ∧ nmT P k t
  | k + 1, .wthn _ t => nmT P k t
theorem tsk_nm {P : Str → Prop} (hP : ∀ j : Int, 0 ≤ j → j < 3 → P (sAt "abc" j)) (most : Int) : ∀ (k : Nat) (n : Int), nmT P (k + 1) (tsk most k n)
  | 0, n => hP _ (mod_b _ _ (by decide)).1 (mod_b _ _ (by decide)).2
  | k + 1, n => by
    have hd := hP _ (mod_b (n / 8) 3 (by decide)).1 (mod_b (n / 8) 3 (by decide)).2
    unfold tsk
    split
    · exact hd
    · split
      · exact ⟨hd, tsk_nm hP most k _⟩
      · split
        · exact tsk_nm hP most k _
        · intro t ht
          obtain ⟨i, _, rfl⟩ := List.mem_map.mp ht
          exact tsk_nm hP most k _
/-! ### has a within -/
mutual
def hasW : Task → Bool
  | .one _ _ => false
  | .grp _ ts => hasWs ts
  | .wout _ t => hasW t
  | .wthn _ _ => true
def hasWs : List Task → Bool
  | [] => false
  | t :: ts => hasW t || hasWs ts
end
theorem hasWs_any : ∀ ts : List Task, hasWs ts = ts.any hasW
  | [] => rfl
  | t :: ts => by simp [hasWs, hasWs_any ts]
theorem ne_nil {n : Nat} {ts : List Task} (hn : n ≤ 30) (h : ∀ t ∈ ts, okT n t) : neP (.list (ts.map enc)) (.list []) = some (.bool (!ts.isEmpty)) := by
  have hs : SeqAt.shaped (.list (ts.map enc)) = true := by
    have := list_shaped (rs := ts.map Res.left) hn fun r hr => by
      obtain ⟨t, ht, rfl⟩ := List.mem_map.mp hr
      exact h t ht
    rw [List.map_map] at this
    exact this
  rw [neP_of hs (by decide +kernel)]
  cases ts <;> simp [PyData.eqv, PyData.eqvAll]
theorem any_filter {α : Type} (p : α → Bool) : ∀ l : List α, (!(l.filter p).isEmpty) = l.any p
  | [] => rfl
  | a :: l => by
    have ih := any_filter p l
    cases h : p a with
    | true => simp [h]
    | false => rw [List.filter_cons_of_neg (by simp [h]), ih]; simp [h]
theorem G_hasW : ∀ (k n : Nat) (t : Task), k ≤ 30 → okT k t → k ≤ n → G__law_has_within n 0 [enc t] = some (.bool (hasW t))
  | 0, _, _, _, h, _ => h.elim
  | k + 1, 0, _, _, _, hn => by omega
  | k + 1, n + 1, t, hk, h, hn => by
    have ih : ∀ t, okT k t → G__law_has_within n 0 [enc t] = some (.bool (hasW t)) := fun t ht => G_hasW k n t (by omega) ht (by omega)
    show runB 1 2 (B__law_has_within (G__law_has_within n)) [enc t] = _
    unfold B__law_has_within
    cases t with
    | one d m => simp only [runB, fSeq, fIf, fRet, fAsg, fB, f1, f2, fA, fA0, fL, fV, fC, fTup, fLst, fNext, on1, on2, gN, gT, gsC, gs0, asB, fAnd, fOr, fBnd, fBor, fNot, fVB, fIte, fAndV, fOrV, notD, negD, fO, fO0, asI, fSl, fPar, List.map_cons, List.map_nil, List.length_cons, List.length_nil, List.reduceReplicate, List.cons_append, List.nil_append, List.append_nil, List.getElem?_cons_zero, List.getElem?_cons_succ, Option.join_some, Option.join_none, List.set_cons_zero, List.set_cons_succ, Option.bind_some, Option.bind_none, Option.map_some, Option.map_none, Nat.reduceSub, Nat.reduceAdd, Nat.reduceEqDiff, if_true, if_false, Bool.false_eq_true, reduceIte, Nat.zero_add, fComp, fItems, itemsOf, extOf, wipeE, fEnum, fRng1, fRng2, fSigns, lenD, tupD, lstD, ix0, ix1, ix2, eq_s, ne_s, eq_i, ne_i, add_i, sub_i, in_t2, in_t3, List.length_map, enc, w_do_do, w_do_all, w_do_any, w_do_then, w_do_without, w_do_within, w_do_done, w_do_failed, w_all_do, w_all_all, w_all_any, w_all_then, w_all_without, w_all_within, w_all_done, w_all_failed, w_any_do, w_any_all, w_any_any, w_any_then, w_any_without, w_any_within, w_any_done, w_any_failed, w_then_do, w_then_all, w_then_any, w_then_then, w_then_without, w_then_within, w_then_done, w_then_failed, w_without_do, w_without_all, w_without_any, w_without_then, w_without_without, w_without_within, w_without_done, w_without_failed, w_within_do, w_within_all, w_within_any, w_within_then, w_within_without, w_within_within, w_within_done, w_within_failed, w_done_do, w_done_all, w_done_any, w_done_then, w_done_without, w_done_within, w_done_done, w_done_failed, w_failed_do, w_failed_all, w_failed_any, w_failed_then, w_failed_without, w_failed_within, w_failed_done, w_failed_failed, hasW]
    | grp w ts =>
      have cm : ∀ (a : Option PyData), compL (gN 1) (fB (fL (G__law_has_within n 0) (fA (fV 1) fA0))) (fV 1) [a, none] (ts.map enc) = some ((ts.filter hasW).map enc) := by
        intro a
        rw [compL_gen (e := enc) (p := hasW) (h := enc)]
        · intro t ht
          simp only [runB, fSeq, fIf, fRet, fAsg, fB, f1, f2, fA, fA0, fL, fV, fC, fTup, fLst, fNext, on1, on2, gN, gT, gsC, gs0, asB, fAnd, fOr, fBnd, fBor, fNot, fVB, fIte, fAndV, fOrV, notD, negD, fO, fO0, asI, fSl, fPar, List.map_cons, List.map_nil, List.length_cons, List.length_nil, List.reduceReplicate, List.cons_append, List.nil_append, List.append_nil, List.getElem?_cons_zero, List.getElem?_cons_succ, Option.join_some, Option.join_none, List.set_cons_zero, List.set_cons_succ, Option.bind_some, Option.bind_none, Option.map_some, Option.map_none, Nat.reduceSub, Nat.reduceAdd, Nat.reduceEqDiff, if_true, if_false, Bool.false_eq_true, reduceIte, Nat.zero_add, fComp, fItems, itemsOf, extOf, wipeE, fEnum, fRng1, fRng2, fSigns, lenD, tupD, lstD, ix0, ix1, ix2, eq_s, ne_s, eq_i, ne_i, add_i, sub_i, in_t2, in_t3, List.length_map, ih t (h.2.2 t ht)]
        · intro t ht _
          simp only [runB, fSeq, fIf, fRet, fAsg, fB, f1, f2, fA, fA0, fL, fV, fC, fTup, fLst, fNext, on1, on2, gN, gT, gsC, gs0, asB, fAnd, fOr, fBnd, fBor, fNot, fVB, fIte, fAndV, fOrV, notD, negD, fO, fO0, asI, fSl, fPar, List.map_cons, List.map_nil, List.length_cons, List.length_nil, List.reduceReplicate, List.cons_append, List.nil_append, List.append_nil, List.getElem?_cons_zero, List.getElem?_cons_succ, Option.join_some, Option.join_none, List.set_cons_zero, List.set_cons_succ, Option.bind_some, Option.bind_none, Option.map_some, Option.map_none, Nat.reduceSub, Nat.reduceAdd, Nat.reduceEqDiff, if_true, if_false, Bool.false_eq_true, reduceIte, Nat.zero_add, fComp, fItems, itemsOf, extOf, wipeE, fEnum, fRng1, fRng2, fSigns, lenD, tupD, lstD, ix0, ix1, ix2, eq_s, ne_s, eq_i, ne_i, add_i, sub_i, in_t2, in_t3, List.length_map]
      have nn := ne_nil (n := k) (ts := ts.filter hasW) (by omega) fun t ht => h.2.2 t (List.mem_filter.mp ht).1
      rw [any_filter] at nn
      cases w
      · simp only [runB, fSeq, fIf, fRet, fAsg, fB, f1, f2, fA, fA0, fL, fV, fC, fTup, fLst, fNext, on1, on2, gN, gT, gsC, gs0, asB, fAnd, fOr, fBnd, fBor, fNot, fVB, fIte, fAndV, fOrV, notD, negD, fO, fO0, asI, fSl, fPar, List.map_cons, List.map_nil, List.length_cons, List.length_nil, List.reduceReplicate, List.cons_append, List.nil_append, List.append_nil, List.getElem?_cons_zero, List.getElem?_cons_succ, Option.join_some, Option.join_none, List.set_cons_zero, List.set_cons_succ, Option.bind_some, Option.bind_none, Option.map_some, Option.map_none, Nat.reduceSub, Nat.reduceAdd, Nat.reduceEqDiff, if_true, if_false, Bool.false_eq_true, reduceIte, Nat.zero_add, fComp, fItems, itemsOf, extOf, wipeE, fEnum, fRng1, fRng2, fSigns, lenD, tupD, lstD, ix0, ix1, ix2, eq_s, ne_s, eq_i, ne_i, add_i, sub_i, in_t2, in_t3, List.length_map, enc, encs_map, Gw.str_all, w_do_do, w_do_all, w_do_any, w_do_then, w_do_without, w_do_within, w_do_done, w_do_failed, w_all_do, w_all_all, w_all_any, w_all_then, w_all_without, w_all_within, w_all_done, w_all_failed, w_any_do, w_any_all, w_any_any, w_any_then, w_any_without, w_any_within, w_any_done, w_any_failed, w_then_do, w_then_all, w_then_any, w_then_then, w_then_without, w_then_within, w_then_done, w_then_failed, w_without_do, w_without_all, w_without_any, w_without_then, w_without_without, w_without_within, w_without_done, w_without_failed, w_within_do, w_within_all, w_within_any, w_within_then, w_within_without, w_within_within, w_within_done, w_within_failed, w_done_do, w_done_all, w_done_any, w_done_then, w_done_without, w_done_within, w_done_done, w_done_failed, w_failed_do, w_failed_all, w_failed_any, w_failed_then, w_failed_without, w_failed_within, w_failed_done, w_failed_failed, Bool.or_self, cm, nn, hasW, hasWs_any]
      · simp only [runB, fSeq, fIf, fRet, fAsg, fB, f1, f2, fA, fA0, fL, fV, fC, fTup, fLst, fNext, on1, on2, gN, gT, gsC, gs0, asB, fAnd, fOr, fBnd, fBor, fNot, fVB, fIte, fAndV, fOrV, notD, negD, fO, fO0, asI, fSl, fPar, List.map_cons, List.map_nil, List.length_cons, List.length_nil, List.reduceReplicate, List.cons_append, List.nil_append, List.append_nil, List.getElem?_cons_zero, List.getElem?_cons_succ, Option.join_some, Option.join_none, List.set_cons_zero, List.set_cons_succ, Option.bind_some, Option.bind_none, Option.map_some, Option.map_none, Nat.reduceSub, Nat.reduceAdd, Nat.reduceEqDiff, if_true, if_false, Bool.false_eq_true, reduceIte, Nat.zero_add, fComp, fItems, itemsOf, extOf, wipeE, fEnum, fRng1, fRng2, fSigns, lenD, tupD, lstD, ix0, ix1, ix2, eq_s, ne_s, eq_i, ne_i, add_i, sub_i, in_t2, in_t3, List.length_map, enc, encs_map, Gw.str_any, w_do_do, w_do_all, w_do_any, w_do_then, w_do_without, w_do_within, w_do_done, w_do_failed, w_all_do, w_all_all, w_all_any, w_all_then, w_all_without, w_all_within, w_all_done, w_all_failed, w_any_do, w_any_all, w_any_any, w_any_then, w_any_without, w_any_within, w_any_done, w_any_failed, w_then_do, w_then_all, w_then_any, w_then_then, w_then_without, w_then_within, w_then_done, w_then_failed, w_without_do, w_without_all, w_without_any, w_without_then, w_without_without, w_without_within, w_without_done, w_without_failed, w_within_do, w_within_all, w_within_any, w_within_then, w_within_without, w_within_within, w_within_done, w_within_failed, w_done_do, w_done_all, w_done_any, w_done_then, w_done_without, w_done_within, w_done_done, w_done_failed, w_failed_do, w_failed_all, w_failed_any, w_failed_then, w_failed_without, w_failed_within, w_failed_done, w_failed_failed, Bool.or_self, cm, nn, hasW, hasWs_any]
      · simp only [runB, fSeq, fIf, fRet, fAsg, fB, f1, f2, fA, fA0, fL, fV, fC, fTup, fLst, fNext, on1, on2, gN, gT, gsC, gs0, asB, fAnd, fOr, fBnd, fBor, fNot, fVB, fIte, fAndV, fOrV, notD, negD, fO, fO0, asI, fSl, fPar, List.map_cons, List.map_nil, List.length_cons, List.length_nil, List.reduceReplicate, List.cons_append, List.nil_append, List.append_nil, List.getElem?_cons_zero, List.getElem?_cons_succ, Option.join_some, Option.join_none, List.set_cons_zero, List.set_cons_succ, Option.bind_some, Option.bind_none, Option.map_some, Option.map_none, Nat.reduceSub, Nat.reduceAdd, Nat.reduceEqDiff, if_true, if_false, Bool.false_eq_true, reduceIte, Nat.zero_add, fComp, fItems, itemsOf, extOf, wipeE, fEnum, fRng1, fRng2, fSigns, lenD, tupD, lstD, ix0, ix1, ix2, eq_s, ne_s, eq_i, ne_i, add_i, sub_i, in_t2, in_t3, List.length_map, enc, encs_map, Gw.str_thn, w_do_do, w_do_all, w_do_any, w_do_then, w_do_without, w_do_within, w_do_done, w_do_failed, w_all_do, w_all_all, w_all_any, w_all_then, w_all_without, w_all_within, w_all_done, w_all_failed, w_any_do, w_any_all, w_any_any, w_any_then, w_any_without, w_any_within, w_any_done, w_any_failed, w_then_do, w_then_all, w_then_any, w_then_then, w_then_without, w_then_within, w_then_done, w_then_failed, w_without_do, w_without_all, w_without_any, w_without_then, w_without_without, w_without_within, w_without_done, w_without_failed, w_within_do, w_within_all, w_within_any, w_within_then, w_within_without, w_within_within, w_within_done, w_within_failed, w_done_do, w_done_all, w_done_any, w_done_then, w_done_without, w_done_within, w_done_done, w_done_failed, w_failed_do, w_failed_all, w_failed_any, w_failed_then, w_failed_without, w_failed_within, w_failed_done, w_failed_failed, Bool.or_self, cm, nn, hasW, hasWs_any]
    | wout d t => simp only [runB, fSeq, fIf, fRet, fAsg, fB, f1, f2, fA, fA0, fL, fV, fC, fTup, fLst, fNext, on1, on2, gN, gT, gsC, gs0, asB, fAnd, fOr, fBnd, fBor, fNot, fVB, fIte, fAndV, fOrV, notD, negD, fO, fO0, asI, fSl, fPar, List.map_cons, List.map_nil, List.length_cons, List.length_nil, List.reduceReplicate, List.cons_append, List.nil_append, List.append_nil, List.getElem?_cons_zero, List.getElem?_cons_succ, Option.join_some, Option.join_none, List.set_cons_zero, List.set_cons_succ, Option.bind_some, Option.bind_none, Option.map_some, Option.map_none, Nat.reduceSub, Nat.reduceAdd, Nat.reduceEqDiff, if_true, if_false, Bool.false_eq_true, reduceIte, Nat.zero_add, fComp, fItems, itemsOf, extOf, wipeE, fEnum, fRng1, fRng2, fSigns, lenD, tupD, lstD, ix0, ix1, ix2, eq_s, ne_s, eq_i, ne_i, add_i, sub_i, in_t2, in_t3, List.length_map, enc, w_do_do, w_do_all, w_do_any, w_do_then, w_do_without, w_do_within, w_do_done, w_do_failed, w_all_do, w_all_all, w_all_any, w_all_then, w_all_without, w_all_within, w_all_done, w_all_failed, w_any_do, w_any_all, w_any_any, w_any_then, w_any_without, w_any_within, w_any_done, w_any_failed, w_then_do, w_then_all, w_then_any, w_then_then, w_then_without, w_then_within, w_then_done, w_then_failed, w_without_do, w_without_all, w_without_any, w_without_then, w_without_without, w_without_within, w_without_done, w_without_failed, w_within_do, w_within_all, w_within_any, w_within_then, w_within_without, w_within_within, w_within_done, w_within_failed, w_done_do, w_done_all, w_done_any, w_done_then, w_done_without, w_done_within, w_done_done, w_done_failed, w_failed_do, w_failed_all, w_failed_any, w_failed_then, w_failed_without, w_failed_within, w_failed_done, w_failed_failed, Bool.true_or, ih t h.2, hasW]
    | wthn m t => simp only [runB, fSeq, fIf, fRet, fAsg, fB, f1, f2, fA, fA0, fL, fV, fC, fTup, fLst, fNext, on1, on2, gN, gT, gsC, gs0, asB, fAnd, fOr, fBnd, fBor, fNot, fVB, fIte, fAndV, fOrV, notD, negD, fO, fO0, asI, fSl, fPar, List.map_cons, List.map_nil, List.length_cons, List.length_nil, List.reduceReplicate, List.cons_append, List.nil_append, List.append_nil, List.getElem?_cons_zero, List.getElem?_cons_succ, Option.join_some, Option.join_none, List.set_cons_zero, List.set_cons_succ, Option.bind_some, Option.bind_none, Option.map_some, Option.map_none, Nat.reduceSub, Nat.reduceAdd, Nat.reduceEqDiff, if_true, if_false, Bool.false_eq_true, reduceIte, Nat.zero_add, fComp, fItems, itemsOf, extOf, wipeE, fEnum, fRng1, fRng2, fSigns, lenD, tupD, lstD, ix0, ix1, ix2, eq_s, ne_s, eq_i, ne_i, add_i, sub_i, in_t2, in_t3, List.length_map, enc, w_do_do, w_do_all, w_do_any, w_do_then, w_do_without, w_do_within, w_do_done, w_do_failed, w_all_do, w_all_all, w_all_any, w_all_then, w_all_without, w_all_within, w_all_done, w_all_failed, w_any_do, w_any_all, w_any_any, w_any_then, w_any_without, w_any_within, w_any_done, w_any_failed, w_then_do, w_then_all, w_then_any, w_then_then, w_then_without, w_then_within, w_then_done, w_then_failed, w_without_do, w_without_all, w_without_any, w_without_then, w_without_without, w_without_within, w_without_done, w_without_failed, w_within_do, w_within_all, w_within_any, w_within_then, w_within_without, w_within_within, w_within_done, w_within_failed, w_done_do, w_done_all, w_done_any, w_done_then, w_done_without, w_done_within, w_done_done, w_done_failed, w_failed_do, w_failed_all, w_failed_any, w_failed_then, w_failed_without, w_failed_within, w_failed_done, w_failed_failed, Bool.or_true, hasW]
theorem F_hasW {k : Nat} {t : Task} (hk : k ≤ 20) (h : okT k t) : F__law_has_within [enc t] = some (.bool (hasW t)) := G_hasW k 24 t (by omega) h (by omega)
/-! ### a deed that no part names -/
theorem dec_other {x : Str} : ∀ (k : Nat) (t : Task) (xs : List Str), okT k t → nmT (· ≠ x) k t → hasW t = false → dec t (x :: xs) = sh 1 (dec t xs)
  | 0, _, _, h, _, _ => h.elim
  | k + 1, .one d m, xs, h, hn, _ => by
    rw [dec_cons]
    have : x ≠ d := fun z => hn z.symm
    simp only [step]
    rw [if_neg this]
    rfl
  | k + 1, .grp w ts, xs, h, hn, hw => by
    simp only [hasW, hasWs_any] at hw
    have ih : ∀ t ∈ ts, ∀ ys, dec t (x :: ys) = sh 1 (dec t ys) := fun t ht ys => dec_other k t ys (h.2.2 t ht) (hn t ht) (by
      cases e : hasW t with
      | false => rfl
      | true => rw [List.any_eq_true.mpr ⟨t, ht, e⟩] at hw; cases hw)
    have e1 : ts.map (dec · (x :: xs)) = (ts.map (dec · xs)).map (sh 1) := by
      rw [List.map_map]
      exact List.map_congr_left fun t ht => ih t ht xs
    cases w with
    | all => rw [dec_all _ _ h.1, dec_all _ _ h.1, e1, gr_sh _ _ _ (by simpa using h.1)]
    | any => rw [dec_any _ _ h.1, dec_any _ _ h.1, e1, gr_sh _ _ _ (by simpa using h.1)]
    | thn =>
      match ts, h, ih with
      | [], h, _ => exact absurd rfl h.1
      | t :: r, h, ih =>
        rw [dec_thn, dec_thn, ih t List.mem_cons_self]
        cases dec t xs with
        | none => rfl
        | some q =>
          obtain ⟨b, p⟩ := q
          cases b with
          | false => rfl
          | true =>
            simp only [sh_some]
            cases r with
            | nil => rfl
            | cons u r =>
              simp only
              rw [sh_sh, List.drop_succ_cons]
  | k + 1, .wout d t, xs, h, hn, hw => by
    have ih := dec_other k t xs h.2 hn.2 hw
    rw [dec_wout, dec_wout, ih]
    simp only [first]
    rw [if_neg (fun z => hn.1 z.symm)]
    cases first d xs with
    | none => rfl
    | some q =>
      cases dec t xs with
      | none => rfl
      | some v =>
        obtain ⟨b, p⟩ := v
        simp only [sh_some, Option.map_some]
        by_cases hq : q ≤ p
        · rw [if_pos hq, if_pos (by omega)]; rfl
        · rw [if_neg hq, if_neg (by omega)]; rfl
  | k + 1, .wthn m t, xs, h, hn, hw => by cases hw
/-! ### deeds by other names -/
mutual
def ren (f : Str → Str) : Task → Task
  | .one d n => .one (f d) n
  | .grp w ts => .grp w (rens f ts)
  | .wout d t => .wout (f d) (ren f t)
  | .wthn n t => .wthn n (ren f t)
def rens (f : Str → Str) : List Task → List Task
  | [] => []
  | t :: ts => ren f t :: rens f ts
end
theorem rens_map (f : Str → Str) : ∀ ts : List Task, rens f ts = ts.map (ren f)
  | [] => by simp [rens]
  | t :: ts => by simp [rens, rens_map f ts]
theorem first_ren {f : Str → Str} (hf : ∀ a b, f a = f b → a = b) (d : Str) : ∀ xs : List Str, first (f d) (xs.map f) = first d xs
  | [] => rfl
  | x :: xs => by
    simp only [List.map_cons, first]
    by_cases h : x = d
    · rw [if_pos h, if_pos (by rw [h])]
    · rw [if_neg h, if_neg (fun z => h (hf _ _ z)), first_ren hf d xs]
theorem dec_ren {f : Str → Str} (hf : ∀ a b, f a = f b → a = b) : ∀ (k : Nat) (t : Task) (xs : List Str), okT k t → dec (ren f t) (xs.map f) = dec t xs
  | 0, _, _, h => h.elim
  | k + 1, .one d m, xs, h => by
    rw [ren]
    obtain ⟨j, rfl⟩ : ∃ j : Nat, m = (j : Int) + 1 := ⟨(m - 1).toNat, by have := h.2; omega⟩
    rw [dec_one, dec_one]
    have : ∀ (ys : List Str) (s : Nat), places (f d) s (ys.map f) = places d s ys := by
      intro ys
      induction ys with
      | nil => intro s; rfl
      | cons y ys ih =>
        intro s
        simp only [List.map_cons, places]
        by_cases h : y = d
        · rw [if_pos h, if_pos (by rw [h]), ih]
        · rw [if_neg h, if_neg (fun z => h (hf _ _ z)), ih]
    rw [this]
  | k + 1, .grp w ts, xs, h => by
    have ih : ∀ t ∈ ts, ∀ ys : List Str, dec (ren f t) (ys.map f) = dec t ys := fun t ht ys => dec_ren hf k t ys (h.2.2 t ht)
    have hne : ts.map (ren f) ≠ [] := by simpa using h.1
    have e1 : (ts.map (ren f)).map (dec · (xs.map f)) = ts.map (dec · xs) := by
      rw [List.map_map]
      exact List.map_congr_left fun t ht => ih t ht xs
    rw [ren, rens_map]
    cases w with
    | all => rw [dec_all _ _ h.1, dec_all _ _ hne, e1]
    | any => rw [dec_any _ _ h.1, dec_any _ _ hne, e1]
    | thn =>
      have e2 : ∀ (l : List Task) (p : Nat), (∀ t ∈ l, t ∈ ts) → chain (xs.map f) p (l.map (ren f)) = chain xs p l := by
        intro l
        induction l with
        | nil => intro p _; rfl
        | cons t l il =>
          intro p hl
          simp only [List.map_cons, chain]
          rw [← List.map_drop, ih t (hl t List.mem_cons_self)]
          cases dec t (xs.drop p) with
          | none => rfl
          | some q =>
            obtain ⟨b, q⟩ := q
            cases b with
            | false => rfl
            | true => exact il _ fun t ht => hl t (List.mem_cons_of_mem _ ht)
      have e3 := chain_dec xs ts 0 h.1
      have e4 := chain_dec (xs.map f) (ts.map (ren f)) 0 hne
      rw [sh_0, List.drop_zero] at e3 e4
      rw [← e3, ← e4]
      exact e2 ts 0 fun _ h => h
  | k + 1, .wout d t, xs, h => by
    rw [ren, dec_wout, dec_wout, dec_ren hf k t xs h.2, first_ren hf]
  | k + 1, .wthn m t, xs, h => by
    obtain ⟨j, rfl⟩ : ∃ j : Nat, m = (j : Int) + 1 := ⟨(m - 1).toNat, by have := h.1; omega⟩
    rw [ren, dec_wthn, dec_wthn, dec_ren hf k t xs h.2, List.length_map]
theorem ren_ok {f : Str → Str} (hf : ∀ d, PyData.canLay0 (.str d) = true → PyData.canLay0 (.str (f d)) = true) : ∀ (k : Nat) (t : Task), okT k t → okT k (ren f t)
  | 0, _, h => h.elim
  | k + 1, .one d m, h => by rw [ren]; exact ⟨hf d h.1, h.2⟩
  | k + 1, .grp w ts, h => by
    rw [ren, rens_map]
    refine ⟨by simpa using h.1, ⟨fun z => by rw [List.length_map]; exact h.2.1.1 z, by rw [List.length_map]; exact h.2.1.2⟩, fun t ht => ?_⟩
    obtain ⟨u, hu, rfl⟩ := List.mem_map.mp ht
    exact ren_ok hf k u (h.2.2 u hu)
  | k + 1, .wout d t, h => by rw [ren]; exact ⟨hf d h.1, ren_ok hf k t h.2⟩
  | k + 1, .wthn n t, h => by rw [ren]; exact ⟨h.1, ren_ok hf k t h.2⟩
theorem cutTo2 (a b c : PyData) : cutL [a, b, c] none (some 2) = [a, b] := rfl
theorem add_t {xs ys : List PyData} (h : xs.length + ys.length ≤ 1000) : addD (.tuple xs) (.tuple ys) = some (.tuple (xs ++ ys)) := by
  simp only [addD]
  exact if_pos (Nat.le_trans h (by decide))
theorem add21 (a b c : PyData) : addD (.tuple [a, b]) (.tuple [c]) = some (.tuple [a, b, c]) := add_t (by simp)
theorem G_called {D : PyData} {f : Str → Str} (hD : ∀ d, getD D (.str d) (.str d) = some (.str (f d))) : ∀ (k n : Nat) (t : Task), okT k t → k ≤ n → G__law_called n 0 [enc t, D] = some (enc (ren f t))
  | 0, _, _, h, _ => h.elim
  | k + 1, 0, _, _, hn => by omega
  | k + 1, n + 1, t, h, hn => by
    have ih : ∀ t, okT k t → G__law_called n 0 [enc t, D] = some (enc (ren f t)) := fun t ht => G_called hD k n t ht (by omega)
    show runB 2 4 (B__law_called (G__law_called n)) [enc t, D] = _
    unfold B__law_called
    cases t with
    | one d m => simp only [runB, fSeq, fIf, fRet, fAsg, fB, f1, f2, fA, fA0, fL, fV, fC, fTup, fLst, fNext, on1, on2, gN, gT, gsC, gs0, asB, fAnd, fOr, fBnd, fBor, fNot, fVB, fIte, fAndV, fOrV, notD, negD, fO, fO0, asI, fSl, fPar, List.map_cons, List.map_nil, List.length_cons, List.length_nil, List.reduceReplicate, List.cons_append, List.nil_append, List.append_nil, List.getElem?_cons_zero, List.getElem?_cons_succ, Option.join_some, Option.join_none, List.set_cons_zero, List.set_cons_succ, Option.bind_some, Option.bind_none, Option.map_some, Option.map_none, Nat.reduceSub, Nat.reduceAdd, Nat.reduceEqDiff, if_true, if_false, Bool.false_eq_true, reduceIte, Nat.zero_add, fComp, fItems, itemsOf, extOf, wipeE, fEnum, fRng1, fRng2, fSigns, lenD, tupD, lstD, ix0, ix1, ix2, eq_s, ne_s, eq_i, ne_i, add_i, sub_i, in_t2, in_t3, List.length_map, f3, enc, w_do_do, w_do_all, w_do_any, w_do_then, w_do_without, w_do_within, w_do_done, w_do_failed, w_all_do, w_all_all, w_all_any, w_all_then, w_all_without, w_all_within, w_all_done, w_all_failed, w_any_do, w_any_all, w_any_any, w_any_then, w_any_without, w_any_within, w_any_done, w_any_failed, w_then_do, w_then_all, w_then_any, w_then_then, w_then_without, w_then_within, w_then_done, w_then_failed, w_without_do, w_without_all, w_without_any, w_without_then, w_without_without, w_without_within, w_without_done, w_without_failed, w_within_do, w_within_all, w_within_any, w_within_then, w_within_without, w_within_within, w_within_done, w_within_failed, w_done_do, w_done_all, w_done_any, w_done_then, w_done_without, w_done_within, w_done_done, w_done_failed, w_failed_do, w_failed_all, w_failed_any, w_failed_then, w_failed_without, w_failed_within, w_failed_done, w_failed_failed, Bool.true_or, hD, slD, cut2, add21, ren]
    | grp w ts =>
      have cm : ∀ (a b : Option PyData), compL (gN 3) fYes (fL (G__law_called n 0) (fA (fV 3) (fA (fV 1) fA0))) [a, some D, b, none] (ts.map enc) = some ((ts.map (ren f)).map enc) := by
        intro a b
        rw [compL_map (e := enc) (h := fun t => enc (ren f t)), List.map_map]
        · rfl
        · intro t ht
          simp only [runB, fSeq, fIf, fRet, fAsg, fB, f1, f2, fA, fA0, fL, fV, fC, fTup, fLst, fNext, on1, on2, gN, gT, gsC, gs0, asB, fAnd, fOr, fBnd, fBor, fNot, fVB, fIte, fAndV, fOrV, notD, negD, fO, fO0, asI, fSl, fPar, List.map_cons, List.map_nil, List.length_cons, List.length_nil, List.reduceReplicate, List.cons_append, List.nil_append, List.append_nil, List.getElem?_cons_zero, List.getElem?_cons_succ, Option.join_some, Option.join_none, List.set_cons_zero, List.set_cons_succ, Option.bind_some, Option.bind_none, Option.map_some, Option.map_none, Nat.reduceSub, Nat.reduceAdd, Nat.reduceEqDiff, if_true, if_false, Bool.false_eq_true, reduceIte, Nat.zero_add, fComp, fItems, itemsOf, extOf, wipeE, fEnum, fRng1, fRng2, fSigns, lenD, tupD, lstD, ix0, ix1, ix2, eq_s, ne_s, eq_i, ne_i, add_i, sub_i, in_t2, in_t3, List.length_map, ih t (h.2.2 t ht)]
      cases w
      · simp only [runB, fSeq, fIf, fRet, fAsg, fB, f1, f2, fA, fA0, fL, fV, fC, fTup, fLst, fNext, on1, on2, gN, gT, gsC, gs0, asB, fAnd, fOr, fBnd, fBor, fNot, fVB, fIte, fAndV, fOrV, notD, negD, fO, fO0, asI, fSl, fPar, List.map_cons, List.map_nil, List.length_cons, List.length_nil, List.reduceReplicate, List.cons_append, List.nil_append, List.append_nil, List.getElem?_cons_zero, List.getElem?_cons_succ, Option.join_some, Option.join_none, List.set_cons_zero, List.set_cons_succ, Option.bind_some, Option.bind_none, Option.map_some, Option.map_none, Nat.reduceSub, Nat.reduceAdd, Nat.reduceEqDiff, if_true, if_false, Bool.false_eq_true, reduceIte, Nat.zero_add, fComp, fItems, itemsOf, extOf, wipeE, fEnum, fRng1, fRng2, fSigns, lenD, tupD, lstD, ix0, ix1, ix2, eq_s, ne_s, eq_i, ne_i, add_i, sub_i, in_t2, in_t3, List.length_map, f3, enc, encs_map, Gw.str_all, w_do_do, w_do_all, w_do_any, w_do_then, w_do_without, w_do_within, w_do_done, w_do_failed, w_all_do, w_all_all, w_all_any, w_all_then, w_all_without, w_all_within, w_all_done, w_all_failed, w_any_do, w_any_all, w_any_any, w_any_then, w_any_without, w_any_within, w_any_done, w_any_failed, w_then_do, w_then_all, w_then_any, w_then_then, w_then_without, w_then_within, w_then_done, w_then_failed, w_without_do, w_without_all, w_without_any, w_without_then, w_without_without, w_without_within, w_without_done, w_without_failed, w_within_do, w_within_all, w_within_any, w_within_then, w_within_without, w_within_within, w_within_done, w_within_failed, w_done_do, w_done_all, w_done_any, w_done_then, w_done_without, w_done_within, w_done_done, w_done_failed, w_failed_do, w_failed_all, w_failed_any, w_failed_then, w_failed_without, w_failed_within, w_failed_done, w_failed_failed, Bool.or_self, cm, ren, rens_map]
      · simp only [runB, fSeq, fIf, fRet, fAsg, fB, f1, f2, fA, fA0, fL, fV, fC, fTup, fLst, fNext, on1, on2, gN, gT, gsC, gs0, asB, fAnd, fOr, fBnd, fBor, fNot, fVB, fIte, fAndV, fOrV, notD, negD, fO, fO0, asI, fSl, fPar, List.map_cons, List.map_nil, List.length_cons, List.length_nil, List.reduceReplicate, List.cons_append, List.nil_append, List.append_nil, List.getElem?_cons_zero, List.getElem?_cons_succ, Option.join_some, Option.join_none, List.set_cons_zero, List.set_cons_succ, Option.bind_some, Option.bind_none, Option.map_some, Option.map_none, Nat.reduceSub, Nat.reduceAdd, Nat.reduceEqDiff, if_true, if_false, Bool.false_eq_true, reduceIte, Nat.zero_add, fComp, fItems, itemsOf, extOf, wipeE, fEnum, fRng1, fRng2, fSigns, lenD, tupD, lstD, ix0, ix1, ix2, eq_s, ne_s, eq_i, ne_i, add_i, sub_i, in_t2, in_t3, List.length_map, f3, enc, encs_map, Gw.str_any, w_do_do, w_do_all, w_do_any, w_do_then, w_do_without, w_do_within, w_do_done, w_do_failed, w_all_do, w_all_all, w_all_any, w_all_then, w_all_without, w_all_within, w_all_done, w_all_failed, w_any_do, w_any_all, w_any_any, w_any_then, w_any_without, w_any_within, w_any_done, w_any_failed, w_then_do, w_then_all, w_then_any, w_then_then, w_then_without, w_then_within, w_then_done, w_then_failed, w_without_do, w_without_all, w_without_any, w_without_then, w_without_without, w_without_within, w_without_done, w_without_failed, w_within_do, w_within_all, w_within_any, w_within_then, w_within_without, w_within_within, w_within_done, w_within_failed, w_done_do, w_done_all, w_done_any, w_done_then, w_done_without, w_done_within, w_done_done, w_done_failed, w_failed_do, w_failed_all, w_failed_any, w_failed_then, w_failed_without, w_failed_within, w_failed_done, w_failed_failed, Bool.or_self, cm, ren, rens_map]
      · simp only [runB, fSeq, fIf, fRet, fAsg, fB, f1, f2, fA, fA0, fL, fV, fC, fTup, fLst, fNext, on1, on2, gN, gT, gsC, gs0, asB, fAnd, fOr, fBnd, fBor, fNot, fVB, fIte, fAndV, fOrV, notD, negD, fO, fO0, asI, fSl, fPar, List.map_cons, List.map_nil, List.length_cons, List.length_nil, List.reduceReplicate, List.cons_append, List.nil_append, List.append_nil, List.getElem?_cons_zero, List.getElem?_cons_succ, Option.join_some, Option.join_none, List.set_cons_zero, List.set_cons_succ, Option.bind_some, Option.bind_none, Option.map_some, Option.map_none, Nat.reduceSub, Nat.reduceAdd, Nat.reduceEqDiff, if_true, if_false, Bool.false_eq_true, reduceIte, Nat.zero_add, fComp, fItems, itemsOf, extOf, wipeE, fEnum, fRng1, fRng2, fSigns, lenD, tupD, lstD, ix0, ix1, ix2, eq_s, ne_s, eq_i, ne_i, add_i, sub_i, in_t2, in_t3, List.length_map, f3, enc, encs_map, Gw.str_thn, w_do_do, w_do_all, w_do_any, w_do_then, w_do_without, w_do_within, w_do_done, w_do_failed, w_all_do, w_all_all, w_all_any, w_all_then, w_all_without, w_all_within, w_all_done, w_all_failed, w_any_do, w_any_all, w_any_any, w_any_then, w_any_without, w_any_within, w_any_done, w_any_failed, w_then_do, w_then_all, w_then_any, w_then_then, w_then_without, w_then_within, w_then_done, w_then_failed, w_without_do, w_without_all, w_without_any, w_without_then, w_without_without, w_without_within, w_without_done, w_without_failed, w_within_do, w_within_all, w_within_any, w_within_then, w_within_without, w_within_within, w_within_done, w_within_failed, w_done_do, w_done_all, w_done_any, w_done_then, w_done_without, w_done_within, w_done_done, w_done_failed, w_failed_do, w_failed_all, w_failed_any, w_failed_then, w_failed_without, w_failed_within, w_failed_done, w_failed_failed, Bool.or_self, cm, ren, rens_map]
    | wout d t => simp only [runB, fSeq, fIf, fRet, fAsg, fB, f1, f2, fA, fA0, fL, fV, fC, fTup, fLst, fNext, on1, on2, gN, gT, gsC, gs0, asB, fAnd, fOr, fBnd, fBor, fNot, fVB, fIte, fAndV, fOrV, notD, negD, fO, fO0, asI, fSl, fPar, List.map_cons, List.map_nil, List.length_cons, List.length_nil, List.reduceReplicate, List.cons_append, List.nil_append, List.append_nil, List.getElem?_cons_zero, List.getElem?_cons_succ, Option.join_some, Option.join_none, List.set_cons_zero, List.set_cons_succ, Option.bind_some, Option.bind_none, Option.map_some, Option.map_none, Nat.reduceSub, Nat.reduceAdd, Nat.reduceEqDiff, if_true, if_false, Bool.false_eq_true, reduceIte, Nat.zero_add, fComp, fItems, itemsOf, extOf, wipeE, fEnum, fRng1, fRng2, fSigns, lenD, tupD, lstD, ix0, ix1, ix2, eq_s, ne_s, eq_i, ne_i, add_i, sub_i, in_t2, in_t3, List.length_map, f3, enc, w_do_do, w_do_all, w_do_any, w_do_then, w_do_without, w_do_within, w_do_done, w_do_failed, w_all_do, w_all_all, w_all_any, w_all_then, w_all_without, w_all_within, w_all_done, w_all_failed, w_any_do, w_any_all, w_any_any, w_any_then, w_any_without, w_any_within, w_any_done, w_any_failed, w_then_do, w_then_all, w_then_any, w_then_then, w_then_without, w_then_within, w_then_done, w_then_failed, w_without_do, w_without_all, w_without_any, w_without_then, w_without_without, w_without_within, w_without_done, w_without_failed, w_within_do, w_within_all, w_within_any, w_within_then, w_within_without, w_within_within, w_within_done, w_within_failed, w_done_do, w_done_all, w_done_any, w_done_then, w_done_without, w_done_within, w_done_done, w_done_failed, w_failed_do, w_failed_all, w_failed_any, w_failed_then, w_failed_without, w_failed_within, w_failed_done, w_failed_failed, Bool.or_true, hD, ih t h.2, add21, ren]
    | wthn m t => simp only [runB, fSeq, fIf, fRet, fAsg, fB, f1, f2, fA, fA0, fL, fV, fC, fTup, fLst, fNext, on1, on2, gN, gT, gsC, gs0, asB, fAnd, fOr, fBnd, fBor, fNot, fVB, fIte, fAndV, fOrV, notD, negD, fO, fO0, asI, fSl, fPar, List.map_cons, List.map_nil, List.length_cons, List.length_nil, List.reduceReplicate, List.cons_append, List.nil_append, List.append_nil, List.getElem?_cons_zero, List.getElem?_cons_succ, Option.join_some, Option.join_none, List.set_cons_zero, List.set_cons_succ, Option.bind_some, Option.bind_none, Option.map_some, Option.map_none, Nat.reduceSub, Nat.reduceAdd, Nat.reduceEqDiff, if_true, if_false, Bool.false_eq_true, reduceIte, Nat.zero_add, fComp, fItems, itemsOf, extOf, wipeE, fEnum, fRng1, fRng2, fSigns, lenD, tupD, lstD, ix0, ix1, ix2, eq_s, ne_s, eq_i, ne_i, add_i, sub_i, in_t2, in_t3, List.length_map, f3, enc, w_do_do, w_do_all, w_do_any, w_do_then, w_do_without, w_do_within, w_do_done, w_do_failed, w_all_do, w_all_all, w_all_any, w_all_then, w_all_without, w_all_within, w_all_done, w_all_failed, w_any_do, w_any_all, w_any_any, w_any_then, w_any_without, w_any_within, w_any_done, w_any_failed, w_then_do, w_then_all, w_then_any, w_then_then, w_then_without, w_then_within, w_then_done, w_then_failed, w_without_do, w_without_all, w_without_any, w_without_then, w_without_without, w_without_within, w_without_done, w_without_failed, w_within_do, w_within_all, w_within_any, w_within_then, w_within_without, w_within_within, w_within_done, w_within_failed, w_done_do, w_done_all, w_done_any, w_done_then, w_done_without, w_done_within, w_done_done, w_done_failed, w_failed_do, w_failed_all, w_failed_any, w_failed_then, w_failed_without, w_failed_within, w_failed_done, w_failed_failed, Bool.or_self, slD, cutTo2, ih t h.2, add21, ren]
end Tk

namespace Tk
open PySem L2 Tl
/-! ### data of all sorts -/
def gd : Nat → PyData → Prop
  | 0, _ => False
  | _ + 1, .none => True
  | _ + 1, .bool _ => True
  | _ + 1, .int i => -1000 ≤ i ∧ i ≤ 1000
  | _ + 1, .str s => PyData.canLay0 (.str s) = true ∧ s.length ≤ 1000
  | k + 1, .tuple ds => ds.length ≤ 20 ∧ ∀ d ∈ ds, gd k d
  | k + 1, .list ds => ds.length ≤ 20 ∧ ∀ d ∈ ds, gd k d
  | _ + 1, .dict _ => False
theorem gd_up : ∀ {k : Nat} {d : PyData}, gd k d → gd (k + 1) d
  | 0, _, h => h.elim
  | k + 1, .none, _ => trivial
  | k + 1, .bool _, _ => trivial
  | k + 1, .int _, h => h
  | k + 1, .str _, h => h
  | k + 1, .tuple ds, h => ⟨h.1, fun d hd => gd_up (h.2 d hd)⟩
  | k + 1, .list ds, h => ⟨h.1, fun d hd => gd_up (h.2 d hd)⟩
  | k + 1, .dict _, h => h.elim
theorem gd_le {n m : Nat} (h : n ≤ m) {d : PyData} (hd : gd n d) : gd m d := by
  induction h with
  | refl => exact hd
  | step _ ih => exact gd_up ih
theorem gd_lay : ∀ {k : Nat} {d : PyData}, gd k d → d.canLay0 = true
  | 0, _, h => h.elim
  | k + 1, .none, _ => rfl
  | k + 1, .bool _, _ => rfl
  | k + 1, .int _, h => rfl
  | k + 1, .str _, h => h.1
  | k + 1, .tuple ds, h => by simp only [PyData.canLay0]; exact lay_all ds fun d hd => gd_lay (h.2 d hd)
  | k + 1, .list ds, h => by simp only [PyData.canLay0]; exact lay_all ds fun d hd => gd_lay (h.2 d hd)
  | k + 1, .dict _, h => h.elim
theorem gd_depth : ∀ {k : Nat} {d : PyData}, gd k d → d.depth ≤ k
  | 0, _, h => h.elim
  | k + 1, .none, _ => by simp [PyData.depth]
  | k + 1, .bool _, _ => by simp [PyData.depth]
  | k + 1, .int _, h => by simp [PyData.depth]
  | k + 1, .str _, h => by simp [PyData.depth]
  | k + 1, .tuple ds, h => by
    have := depth_all k ds fun d hd => gd_depth (h.2 d hd)
    simp only [PyData.depth]
    omega
  | k + 1, .list ds, h => by
    have := depth_all k ds fun d hd => gd_depth (h.2 d hd)
    simp only [PyData.depth]
    omega
  | k + 1, .dict _, h => h.elim
theorem gd_shaped {k : Nat} {d : PyData} (hk : k ≤ 60) (h : gd k d) : SeqAt.shaped d = true := shaped_of (gd_lay h) (by have := gd_depth h; omega)
/-! ### names, numbers -/
def inAZ (c : Nat) : Bool := decide (97 ≤ c) && decide (c ≤ 122)
def isNm : PyData → Bool
  | .str s => decide (1 ≤ s.length) && (decide (s.length ≤ 5) && s.cps.toList.all inAZ)
  | _ => false
def isWh (lo hi : Int) : PyData → Bool
  | .int i => decide (lo ≤ i) && decide (i ≤ hi)
  | _ => false
theorem letters : ("abcdefghijklmnopqrstuvwxyz" : Str).cps.toList = (List.range 26).map (· + 97) := by decide +kernel
theorem in_letters (c : Nat) : decide (c ∈ ("abcdefghijklmnopqrstuvwxyz" : Str).cps.toList) = inAZ c := by
  rw [letters]
  unfold inAZ
  by_cases h : 97 ≤ c ∧ c ≤ 122
  · rw [decide_eq_true h.1, decide_eq_true h.2, decide_eq_true]
    · rfl
    · exact List.mem_map.mpr ⟨c - 97, List.mem_range.mpr (by omega), by omega⟩
  · rw [decide_eq_false]
    · by_cases h1 : 97 ≤ c
      · have h2 : ¬ c ≤ 122 := fun z => h ⟨h1, z⟩
        rw [decide_eq_true h1, decide_eq_false h2]
        rfl
      · rw [decide_eq_false h1]
        rfl
    · intro z
      obtain ⟨a, ha, rfl⟩ := List.mem_map.mp z
      have := List.mem_range.mp ha
      omega
theorem asBs_map {α : Type} (f : α → Bool) : ∀ l : List α, asBs (l.map fun a => PyData.bool (f a)) = some (l.map f)
  | [] => rfl
  | x :: r => by simp only [List.map_cons, asBs, asBs_map f r, Option.map_some]
theorem all_map {α : Type} (f : α → Bool) (l : List α) : allD (.list (l.map fun a => PyData.bool (f a))) = some (.bool (l.all f)) := by
  simp only [allD, onL, asBs_map, Option.map_some, List.all_map]
  rfl
theorem len_s {s : Str} (h : s.length ≤ 1000) : lenD (.str s) = some (.int s.length) := by
  simp only [lenD]
  exact if_pos (line_th h)
where line_th {n : Nat} (h : n ≤ 1000) : n ≤ sizeLine := Nat.le_trans h (by decide)
theorem signs_s {s : Str} (h : s.length ≤ 1000) : signsD (.str s) = some (s.cps.toList.map fun c => PyData.str ⟨#[c]⟩) := by
  simp only [signsD]
  exact if_pos (len_s.line_th h)
theorem le_s1 (a b : Int) : leD (.int a) (.int b) = some (.bool (decide (a ≤ b))) := rfl
theorem F_name {k : Nat} {d : PyData} (h : gd k d) : F_is_name [d] = some (.bool (isNm d)) := by
  match k, h with
  | k + 1, h =>
    unfold F_is_name B_is_name
    cases d with
    | str s =>
      have hs := h.2
      have cm : ∀ a : Option PyData, compL (gN 1) fYes (f2 inP (fV 1) (fC (.str "abcdefghijklmnopqrstuvwxyz"))) [a, none] (s.cps.toList.map fun c => PyData.str ⟨#[c]⟩) = some (s.cps.toList.map fun c => PyData.bool (inAZ c)) := by
        intro a
        rw [compL_map (e := fun c => PyData.str ⟨#[c]⟩) (h := fun c => PyData.bool (inAZ c))]
        intro c _
        have hc : inP (.str ⟨#[c]⟩) (.str "abcdefghijklmnopqrstuvwxyz") = some (.bool (decide (c ∈ ("abcdefghijklmnopqrstuvwxyz" : Str).cps.toList))) := rfl
        simp only [runB, fSeq, fIf, fRet, fAsg, fB, f1, f2, fA, fA0, fL, fV, fC, fTup, fLst, fNext, on1, on2, gN, gT, gsC, gs0, asB, fAnd, fOr, fBnd, fBor, fNot, fVB, fIte, fAndV, fOrV, notD, negD, fO, fO0, asI, fSl, fPar, List.map_cons, List.map_nil, List.length_cons, List.length_nil, List.reduceReplicate, List.cons_append, List.nil_append, List.append_nil, List.getElem?_cons_zero, List.getElem?_cons_succ, Option.join_some, Option.join_none, List.set_cons_zero, List.set_cons_succ, Option.bind_some, Option.bind_none, Option.map_some, Option.map_none, Nat.reduceSub, Nat.reduceAdd, Nat.reduceEqDiff, if_true, if_false, Bool.false_eq_true, reduceIte, Nat.zero_add, fComp, fItems, itemsOf, extOf, wipeE, fEnum, fRng1, fRng2, fSigns, lenD, tupD, lstD, ix0, ix1, ix2, eq_s, ne_s, eq_i, ne_i, add_i, sub_i, in_t2, in_t3, List.length_map, hc, in_letters]
      have hl : s.length ≤ sizeLine := len_s.line_th hs
      simp only [runB, fSeq, fIf, fRet, fAsg, fB, f1, f2, fA, fA0, fL, fV, fC, fTup, fLst, fNext, on1, on2, gN, gT, gsC, gs0, asB, fAnd, fOr, fBnd, fBor, fNot, fVB, fIte, fAndV, fOrV, notD, negD, fO, fO0, asI, fSl, fPar, List.map_cons, List.map_nil, List.length_cons, List.length_nil, List.reduceReplicate, List.cons_append, List.nil_append, List.append_nil, List.getElem?_cons_zero, List.getElem?_cons_succ, Option.join_some, Option.join_none, List.set_cons_zero, List.set_cons_succ, Option.bind_some, Option.bind_none, Option.map_some, Option.map_none, Nat.reduceSub, Nat.reduceAdd, Nat.reduceEqDiff, if_true, if_false, Bool.false_eq_true, reduceIte, Nat.zero_add, fComp, fItems, itemsOf, extOf, wipeE, fEnum, fRng1, fRng2, fSigns, lenD, tupD, lstD, ix0, ix1, ix2, eq_s, ne_s, eq_i, ne_i, add_i, sub_i, in_t2, in_t3, List.length_map, isStrD, fLele, hl, le_s1, signs_s hs, cm, all_map, isNm]
      by_cases h1 : 1 ≤ s.length
      · rw [decide_eq_true (by omega : (1 : Int) ≤ (s.length : Int)), decide_eq_true h1]
        by_cases h5 : s.length ≤ 5
        · rw [decide_eq_true (by omega : (s.length : Int) ≤ 5), decide_eq_true h5]
          simp
        · rw [decide_eq_false (by omega : ¬ (s.length : Int) ≤ 5), decide_eq_false h5]
          simp
      · rw [decide_eq_false (by omega : ¬ (1 : Int) ≤ (s.length : Int)), decide_eq_false h1]
        simp
    | none => rfl
    | bool b => rfl
    | int i => rfl
    | tuple ds => rfl
    | list ds => rfl
    | dict ds => rfl
theorem F_whole (lo hi : Int) (d : PyData) : F_is_whole [d, .int lo, .int hi] = some (.bool (isWh lo hi d)) := by
  unfold F_is_whole B_is_whole
  cases d with
  | int i =>
    simp only [runB, fSeq, fIf, fRet, fAsg, fB, f1, f2, fA, fA0, fL, fV, fC, fTup, fLst, fNext, on1, on2, gN, gT, gsC, gs0, asB, fAnd, fOr, fBnd, fBor, fNot, fVB, fIte, fAndV, fOrV, notD, negD, fO, fO0, asI, fSl, fPar, List.map_cons, List.map_nil, List.length_cons, List.length_nil, List.reduceReplicate, List.cons_append, List.nil_append, List.append_nil, List.getElem?_cons_zero, List.getElem?_cons_succ, Option.join_some, Option.join_none, List.set_cons_zero, List.set_cons_succ, Option.bind_some, Option.bind_none, Option.map_some, Option.map_none, Nat.reduceSub, Nat.reduceAdd, Nat.reduceEqDiff, if_true, if_false, Bool.false_eq_true, reduceIte, Nat.zero_add, fComp, fItems, itemsOf, extOf, wipeE, fEnum, fRng1, fRng2, fSigns, lenD, tupD, lstD, ix0, ix1, ix2, eq_s, ne_s, eq_i, ne_i, add_i, sub_i, in_t2, in_t3, List.length_map, isIntD, isBoolD, Bool.not_false, fLele, le_s1, isWh]
    cases decide (lo ≤ i) with
    | true => simp
    | false => simp
  | str s => rfl
  | none => rfl
  | bool b => rfl
  | tuple ds => rfl
  | list ds => rfl
  | dict ds => rfl
def isGw (w : Str) : Bool := ("all" : Str) == w || (("any" : Str) == w || ("then" : Str) == w)
def grpOk (f : PyData → Bool) (w : Str) : List PyData → Bool
  | [.tuple ps] => decide ((if (w == ("then" : Str)) = true then 2 else 1) ≤ ps.length) && (decide (ps.length ≤ 3) && ps.all f)
  | _ => false
def oneOk (f : PyData → Bool) (w : Str) : List PyData → Bool
  | [a, b] => if (w == ("do" : Str)) = true then isNm a && isWh 1 4 b else if (w == ("without" : Str)) = true then isNm a && f b else (w == ("within" : Str)) && (isWh 1 9 a && f b)
  | _ => false
def tk : Nat → PyData → Bool
  | 0, _ => false
  | n + 1, d => match d with
    | .tuple (.str w :: rest) => if isGw w = true then grpOk (tk n) w rest else oneOk (tk n) w rest
    | _ => false
theorem gd_t {k : Nat} {ds : List PyData} (h : gd (k + 1) (.tuple ds)) : ∀ d ∈ ds, gd k d := h.2
theorem least_w (w : Str) : addD (.int 1) (.int (if (w == ("then" : Str)) = true then 1 else 0)) = some (.int (if (w == ("then" : Str)) = true then 2 else 1)) := by
  cases w == ("then" : Str) <;> rfl
theorem int_b (b : Bool) : intD (.bool b) = some (.int (if b = true then 1 else 0)) := by cases b <;> rfl
theorem G_tk : ∀ (n m k : Nat) (d : PyData), gd k d → n + 1 ≤ m → G_is_task_to m 0 [d, .int (n : Int)] = some (.bool (tk n d))
  | n, 0, _, _, _, hm => by omega
  | n, m + 1, 0, _, h, _ => h.elim
  | n, m + 1, k + 1, d, h, hm => by
    show runB 2 4 (B_is_task_to (G_is_task_to m)) [d, .int (n : Int)] = _
    unfold B_is_task_to
    cases n with
    | zero =>
      simp only [runB, fSeq, fIf, fRet, fAsg, fB, f1, f2, fA, fA0, fL, fV, fC, fTup, fLst, fNext, on1, on2, gN, gT, gsC, gs0, asB, fAnd, fOr, fBnd, fBor, fNot, fVB, fIte, fAndV, fOrV, notD, negD, fO, fO0, asI, fSl, fPar, List.map_cons, List.map_nil, List.length_cons, List.length_nil, List.reduceReplicate, List.cons_append, List.nil_append, List.append_nil, List.getElem?_cons_zero, List.getElem?_cons_succ, Option.join_some, Option.join_none, List.set_cons_zero, List.set_cons_succ, Option.bind_some, Option.bind_none, Option.map_some, Option.map_none, Nat.reduceSub, Nat.reduceAdd, Nat.reduceEqDiff, if_true, if_false, Bool.false_eq_true, reduceIte, Nat.zero_add, fComp, fItems, itemsOf, extOf, wipeE, fEnum, fRng1, fRng2, fSigns, lenD, tupD, lstD, ix0, ix1, ix2, eq_s, ne_s, eq_i, ne_i, add_i, sub_i, in_t2, in_t3, List.length_map, tk]
      rfl
    | succ n =>
      have ih : ∀ d, gd k d → G_is_task_to m 0 [d, .int (n : Int)] = some (.bool (tk n d)) := fun d hd => G_tk n m k d hd (by omega)
      have n0 : (((n + 1 : Nat) : Int) == 0) = false := by rw [beq_eq_false_iff_ne]; omega
      have n1 : ((n + 1 : Nat) : Int) - 1 = (n : Int) := by omega
      match d, h with
      | .none, h => simp only [runB, fSeq, fIf, fRet, fAsg, fB, f1, f2, fA, fA0, fL, fV, fC, fTup, fLst, fNext, on1, on2, gN, gT, gsC, gs0, asB, fAnd, fOr, fBnd, fBor, fNot, fVB, fIte, fAndV, fOrV, notD, negD, fO, fO0, asI, fSl, fPar, List.map_cons, List.map_nil, List.length_cons, List.length_nil, List.reduceReplicate, List.cons_append, List.nil_append, List.append_nil, List.getElem?_cons_zero, List.getElem?_cons_succ, Option.join_some, Option.join_none, List.set_cons_zero, List.set_cons_succ, Option.bind_some, Option.bind_none, Option.map_some, Option.map_none, Nat.reduceSub, Nat.reduceAdd, Nat.reduceEqDiff, if_true, if_false, Bool.false_eq_true, reduceIte, Nat.zero_add, fComp, fItems, itemsOf, extOf, wipeE, fEnum, fRng1, fRng2, fSigns, lenD, tupD, lstD, ix0, ix1, ix2, eq_s, ne_s, eq_i, ne_i, add_i, sub_i, in_t2, in_t3, List.length_map, n0, isTupD, Bool.not_false, tk]
      | .bool b, h => simp only [runB, fSeq, fIf, fRet, fAsg, fB, f1, f2, fA, fA0, fL, fV, fC, fTup, fLst, fNext, on1, on2, gN, gT, gsC, gs0, asB, fAnd, fOr, fBnd, fBor, fNot, fVB, fIte, fAndV, fOrV, notD, negD, fO, fO0, asI, fSl, fPar, List.map_cons, List.map_nil, List.length_cons, List.length_nil, List.reduceReplicate, List.cons_append, List.nil_append, List.append_nil, List.getElem?_cons_zero, List.getElem?_cons_succ, Option.join_some, Option.join_none, List.set_cons_zero, List.set_cons_succ, Option.bind_some, Option.bind_none, Option.map_some, Option.map_none, Nat.reduceSub, Nat.reduceAdd, Nat.reduceEqDiff, if_true, if_false, Bool.false_eq_true, reduceIte, Nat.zero_add, fComp, fItems, itemsOf, extOf, wipeE, fEnum, fRng1, fRng2, fSigns, lenD, tupD, lstD, ix0, ix1, ix2, eq_s, ne_s, eq_i, ne_i, add_i, sub_i, in_t2, in_t3, List.length_map, n0, isTupD, Bool.not_false, tk]
      | .int i, h => simp only [runB, fSeq, fIf, fRet, fAsg, fB, f1, f2, fA, fA0, fL, fV, fC, fTup, fLst, fNext, on1, on2, gN, gT, gsC, gs0, asB, fAnd, fOr, fBnd, fBor, fNot, fVB, fIte, fAndV, fOrV, notD, negD, fO, fO0, asI, fSl, fPar, List.map_cons, List.map_nil, List.length_cons, List.length_nil, List.reduceReplicate, List.cons_append, List.nil_append, List.append_nil, List.getElem?_cons_zero, List.getElem?_cons_succ, Option.join_some, Option.join_none, List.set_cons_zero, List.set_cons_succ, Option.bind_some, Option.bind_none, Option.map_some, Option.map_none, Nat.reduceSub, Nat.reduceAdd, Nat.reduceEqDiff, if_true, if_false, Bool.false_eq_true, reduceIte, Nat.zero_add, fComp, fItems, itemsOf, extOf, wipeE, fEnum, fRng1, fRng2, fSigns, lenD, tupD, lstD, ix0, ix1, ix2, eq_s, ne_s, eq_i, ne_i, add_i, sub_i, in_t2, in_t3, List.length_map, n0, isTupD, Bool.not_false, tk]
      | .str s, h => simp only [runB, fSeq, fIf, fRet, fAsg, fB, f1, f2, fA, fA0, fL, fV, fC, fTup, fLst, fNext, on1, on2, gN, gT, gsC, gs0, asB, fAnd, fOr, fBnd, fBor, fNot, fVB, fIte, fAndV, fOrV, notD, negD, fO, fO0, asI, fSl, fPar, List.map_cons, List.map_nil, List.length_cons, List.length_nil, List.reduceReplicate, List.cons_append, List.nil_append, List.append_nil, List.getElem?_cons_zero, List.getElem?_cons_succ, Option.join_some, Option.join_none, List.set_cons_zero, List.set_cons_succ, Option.bind_some, Option.bind_none, Option.map_some, Option.map_none, Nat.reduceSub, Nat.reduceAdd, Nat.reduceEqDiff, if_true, if_false, Bool.false_eq_true, reduceIte, Nat.zero_add, fComp, fItems, itemsOf, extOf, wipeE, fEnum, fRng1, fRng2, fSigns, lenD, tupD, lstD, ix0, ix1, ix2, eq_s, ne_s, eq_i, ne_i, add_i, sub_i, in_t2, in_t3, List.length_map, n0, isTupD, Bool.not_false, tk]
      | .list ds, h => simp only [runB, fSeq, fIf, fRet, fAsg, fB, f1, f2, fA, fA0, fL, fV, fC, fTup, fLst, fNext, on1, on2, gN, gT, gsC, gs0, asB, fAnd, fOr, fBnd, fBor, fNot, fVB, fIte, fAndV, fOrV, notD, negD, fO, fO0, asI, fSl, fPar, List.map_cons, List.map_nil, List.length_cons, List.length_nil, List.reduceReplicate, List.cons_append, List.nil_append, List.append_nil, List.getElem?_cons_zero, List.getElem?_cons_succ, Option.join_some, Option.join_none, List.set_cons_zero, List.set_cons_succ, Option.bind_some, Option.bind_none, Option.map_some, Option.map_none, Nat.reduceSub, Nat.reduceAdd, Nat.reduceEqDiff, if_true, if_false, Bool.false_eq_true, reduceIte, Nat.zero_add, fComp, fItems, itemsOf, extOf, wipeE, fEnum, fRng1, fRng2, fSigns, lenD, tupD, lstD, ix0, ix1, ix2, eq_s, ne_s, eq_i, ne_i, add_i, sub_i, in_t2, in_t3, List.length_map, n0, isTupD, Bool.not_false, tk]
      | .tuple [], h => simp only [runB, fSeq, fIf, fRet, fAsg, fB, f1, f2, fA, fA0, fL, fV, fC, fTup, fLst, fNext, on1, on2, gN, gT, gsC, gs0, asB, fAnd, fOr, fBnd, fBor, fNot, fVB, fIte, fAndV, fOrV, notD, negD, fO, fO0, asI, fSl, fPar, List.map_cons, List.map_nil, List.length_cons, List.length_nil, List.reduceReplicate, List.cons_append, List.nil_append, List.append_nil, List.getElem?_cons_zero, List.getElem?_cons_succ, Option.join_some, Option.join_none, List.set_cons_zero, List.set_cons_succ, Option.bind_some, Option.bind_none, Option.map_some, Option.map_none, Nat.reduceSub, Nat.reduceAdd, Nat.reduceEqDiff, if_true, if_false, Bool.false_eq_true, reduceIte, Nat.zero_add, fComp, fItems, itemsOf, extOf, wipeE, fEnum, fRng1, fRng2, fSigns, lenD, tupD, lstD, ix0, ix1, ix2, eq_s, ne_s, eq_i, ne_i, add_i, sub_i, in_t2, in_t3, List.length_map, n0, isTupD, Bool.not_true, lt_i, tk]; rfl
      | .tuple [a], h =>
        have e : tk (n + 1) (.tuple [a]) = false := by
          cases a with
          | str w => simp only [tk, grpOk, oneOk]; split <;> rfl
          | none => rfl
          | bool _ => rfl
          | int _ => rfl
          | list _ => rfl
          | tuple _ => rfl
          | dict _ => rfl
        rw [e]
        simp only [runB, fSeq, fIf, fRet, fAsg, fB, f1, f2, fA, fA0, fL, fV, fC, fTup, fLst, fNext, on1, on2, gN, gT, gsC, gs0, asB, fAnd, fOr, fBnd, fBor, fNot, fVB, fIte, fAndV, fOrV, notD, negD, fO, fO0, asI, fSl, fPar, List.map_cons, List.map_nil, List.length_cons, List.length_nil, List.reduceReplicate, List.cons_append, List.nil_append, List.append_nil, List.getElem?_cons_zero, List.getElem?_cons_succ, Option.join_some, Option.join_none, List.set_cons_zero, List.set_cons_succ, Option.bind_some, Option.bind_none, Option.map_some, Option.map_none, Nat.reduceSub, Nat.reduceAdd, Nat.reduceEqDiff, if_true, if_false, Bool.false_eq_true, reduceIte, Nat.zero_add, fComp, fItems, itemsOf, extOf, wipeE, fEnum, fRng1, fRng2, fSigns, lenD, tupD, lstD, ix0, ix1, ix2, eq_s, ne_s, eq_i, ne_i, add_i, sub_i, in_t2, in_t3, List.length_map, n0, isTupD, Bool.not_true, lt_i]
        rfl
      | .tuple (a :: b :: r), h =>
        have l2 : decide ((((a :: b :: r).length : Nat) : Int) < 2) = false := decide_eq_false (by simp; omega)
        have ha := gd_t h a List.mem_cons_self
        have hb := gd_t h b (by simp)
        simp only [List.length_cons] at l2
        by_cases hs : isStrD a = true
        · obtain ⟨w, rfl⟩ : ∃ w, a = .str w := by
            cases a <;> simp [isStrD] at hs
            exact ⟨_, rfl⟩
          by_cases hw : isGw w = true
          · have hw' : ((("all" : Str) == w || ((("any" : Str) == w) || (("then" : Str) == w))) : Bool) = true := hw
            have et : tk (n + 1) (.tuple (.str w :: b :: r)) = grpOk (tk n) w (b :: r) := by
              rw [tk]
              exact if_pos hw
            rw [et]
            cases r with
            | nil =>
              have k2 : decide (((2 : Nat) : Int) < 2) = false := rfl
              have k3 : (((2 : Nat) : Int) == 2) = true := rfl
              match b, hb with
              | .tuple ps, hb =>
                have hp : ∀ p ∈ ps, gd k p := fun p hp => by
                  match k, hb with
                  | k + 1, hb => exact gd_up (hb.2 p hp)
                have cm : ∀ (a b c : Option PyData), compL (gN 3) fYes (fL (G_is_task_to m 0) (fA (fV 3) (fA (f2 subD (fV 1) (fC (.int 1))) fA0))) [a, some (.int ((n + 1 : Nat) : Int)), b, none] (ps.map id) = some (ps.map fun p => PyData.bool (tk n p)) := by
                  intro a b c
                  rw [compL_map (e := id) (h := fun p => PyData.bool (tk n p))]
                  intro p hq
                  simp only [runB, fSeq, fIf, fRet, fAsg, fB, f1, f2, fA, fA0, fL, fV, fC, fTup, fLst, fNext, on1, on2, gN, gT, gsC, gs0, asB, fAnd, fOr, fBnd, fBor, fNot, fVB, fIte, fAndV, fOrV, notD, negD, fO, fO0, asI, fSl, fPar, List.map_cons, List.map_nil, List.length_cons, List.length_nil, List.reduceReplicate, List.cons_append, List.nil_append, List.append_nil, List.getElem?_cons_zero, List.getElem?_cons_succ, Option.join_some, Option.join_none, List.set_cons_zero, List.set_cons_succ, Option.bind_some, Option.bind_none, Option.map_some, Option.map_none, Nat.reduceSub, Nat.reduceAdd, Nat.reduceEqDiff, if_true, if_false, Bool.false_eq_true, reduceIte, Nat.zero_add, fComp, fItems, itemsOf, extOf, wipeE, fEnum, fRng1, fRng2, fSigns, lenD, tupD, lstD, ix0, ix1, ix2, eq_s, ne_s, eq_i, ne_i, add_i, sub_i, in_t2, in_t3, List.length_map, n1, id, ih p (hp p hq)]
                rw [List.map_id] at cm
                simp only [runB, fSeq, fIf, fRet, fAsg, fB, f1, f2, fA, fA0, fL, fV, fC, fTup, fLst, fNext, on1, on2, gN, gT, gsC, gs0, asB, fAnd, fOr, fBnd, fBor, fNot, fVB, fIte, fAndV, fOrV, notD, negD, fO, fO0, asI, fSl, fPar, List.map_cons, List.map_nil, List.length_cons, List.length_nil, List.reduceReplicate, List.cons_append, List.nil_append, List.append_nil, List.getElem?_cons_zero, List.getElem?_cons_succ, Option.join_some, Option.join_none, List.set_cons_zero, List.set_cons_succ, Option.bind_some, Option.bind_none, Option.map_some, Option.map_none, Nat.reduceSub, Nat.reduceAdd, Nat.reduceEqDiff, if_true, if_false, Bool.false_eq_true, reduceIte, Nat.zero_add, fComp, fItems, itemsOf, extOf, wipeE, fEnum, fRng1, fRng2, fSigns, lenD, tupD, lstD, ix0, ix1, ix2, eq_s, ne_s, eq_i, ne_i, add_i, sub_i, in_t2, in_t3, List.length_map, n0, isTupD, Bool.not_true, lt_i, k2, k3, isStrD, hw', int_b, least_w, fLele, le_s1, grpOk]
                have e2 : ((2 : Int) == 2) = true := rfl
                by_cases h1 : (if (w == ("then" : Str)) = true then 2 else 1) ≤ ps.length
                · have h1' : decide ((1 + if (w == ("then" : Str)) = true then (1 : Int) else 0) ≤ (ps.length : Int)) = true := decide_eq_true (by
                    cases hz : (w == ("then" : Str)) with
                    | true => rw [hz] at h1; simp only [if_true] at h1 ⊢; omega
                    | false => rw [hz] at h1; simp only [Bool.false_eq_true, if_false] at h1 ⊢; omega)
                  rw [decide_eq_true h1]
                  by_cases h3 : ps.length ≤ 3
                  · have h3' : decide ((ps.length : Int) ≤ 3) = true := decide_eq_true (by omega)
                    simp only [h1', h3', decide_eq_true h3, runB, fSeq, fIf, fRet, fAsg, fB, f1, f2, fA, fA0, fL, fV, fC, fTup, fLst, fNext, on1, on2, gN, gT, gsC, gs0, asB, fAnd, fOr, fBnd, fBor, fNot, fVB, fIte, fAndV, fOrV, notD, negD, fO, fO0, asI, fSl, fPar, List.map_cons, List.map_nil, List.length_cons, List.length_nil, List.reduceReplicate, List.cons_append, List.nil_append, List.append_nil, List.getElem?_cons_zero, List.getElem?_cons_succ, Option.join_some, Option.join_none, List.set_cons_zero, List.set_cons_succ, Option.bind_some, Option.bind_none, Option.map_some, Option.map_none, Nat.reduceSub, Nat.reduceAdd, Nat.reduceEqDiff, if_true, if_false, Bool.false_eq_true, reduceIte, Nat.zero_add, fComp, fItems, itemsOf, extOf, wipeE, fEnum, fRng1, fRng2, fSigns, lenD, tupD, lstD, ix0, ix1, ix2, eq_s, ne_s, eq_i, ne_i, add_i, sub_i, in_t2, in_t3, List.length_map, Bool.not_true, cm _ _ none, all_map, Bool.true_and]
                  · have h3' : decide ((ps.length : Int) ≤ 3) = false := decide_eq_false (by omega)
                    simp only [h1', h3', decide_eq_false h3, runB, fSeq, fIf, fRet, fAsg, fB, f1, f2, fA, fA0, fL, fV, fC, fTup, fLst, fNext, on1, on2, gN, gT, gsC, gs0, asB, fAnd, fOr, fBnd, fBor, fNot, fVB, fIte, fAndV, fOrV, notD, negD, fO, fO0, asI, fSl, fPar, List.map_cons, List.map_nil, List.length_cons, List.length_nil, List.reduceReplicate, List.cons_append, List.nil_append, List.append_nil, List.getElem?_cons_zero, List.getElem?_cons_succ, Option.join_some, Option.join_none, List.set_cons_zero, List.set_cons_succ, Option.bind_some, Option.bind_none, Option.map_some, Option.map_none, Nat.reduceSub, Nat.reduceAdd, Nat.reduceEqDiff, if_true, if_false, Bool.false_eq_true, reduceIte, Nat.zero_add, fComp, fItems, itemsOf, extOf, wipeE, fEnum, fRng1, fRng2, fSigns, lenD, tupD, lstD, ix0, ix1, ix2, eq_s, ne_s, eq_i, ne_i, add_i, sub_i, in_t2, in_t3, List.length_map, Bool.not_false, Bool.false_and, Bool.and_false]
                · have h1' : decide ((1 + if (w == ("then" : Str)) = true then (1 : Int) else 0) ≤ (ps.length : Int)) = false := decide_eq_false (by
                    cases hz : (w == ("then" : Str)) with
                    | true => rw [hz] at h1; simp only [if_true] at h1 ⊢; omega
                    | false => rw [hz] at h1; simp only [Bool.false_eq_true, if_false] at h1 ⊢; omega)
                  rw [decide_eq_false h1]
                  simp only [h1', runB, fSeq, fIf, fRet, fAsg, fB, f1, f2, fA, fA0, fL, fV, fC, fTup, fLst, fNext, on1, on2, gN, gT, gsC, gs0, asB, fAnd, fOr, fBnd, fBor, fNot, fVB, fIte, fAndV, fOrV, notD, negD, fO, fO0, asI, fSl, fPar, List.map_cons, List.map_nil, List.length_cons, List.length_nil, List.reduceReplicate, List.cons_append, List.nil_append, List.append_nil, List.getElem?_cons_zero, List.getElem?_cons_succ, Option.join_some, Option.join_none, List.set_cons_zero, List.set_cons_succ, Option.bind_some, Option.bind_none, Option.map_some, Option.map_none, Nat.reduceSub, Nat.reduceAdd, Nat.reduceEqDiff, if_true, if_false, Bool.false_eq_true, reduceIte, Nat.zero_add, fComp, fItems, itemsOf, extOf, wipeE, fEnum, fRng1, fRng2, fSigns, lenD, tupD, lstD, ix0, ix1, ix2, eq_s, ne_s, eq_i, ne_i, add_i, sub_i, in_t2, in_t3, List.length_map, Bool.not_false, Bool.false_and]
              | .none, hb => simp only [runB, fSeq, fIf, fRet, fAsg, fB, f1, f2, fA, fA0, fL, fV, fC, fTup, fLst, fNext, on1, on2, gN, gT, gsC, gs0, asB, fAnd, fOr, fBnd, fBor, fNot, fVB, fIte, fAndV, fOrV, notD, negD, fO, fO0, asI, fSl, fPar, List.map_cons, List.map_nil, List.length_cons, List.length_nil, List.reduceReplicate, List.cons_append, List.nil_append, List.append_nil, List.getElem?_cons_zero, List.getElem?_cons_succ, Option.join_some, Option.join_none, List.set_cons_zero, List.set_cons_succ, Option.bind_some, Option.bind_none, Option.map_some, Option.map_none, Nat.reduceSub, Nat.reduceAdd, Nat.reduceEqDiff, if_true, if_false, Bool.false_eq_true, reduceIte, Nat.zero_add, fComp, fItems, itemsOf, extOf, wipeE, fEnum, fRng1, fRng2, fSigns, lenD, tupD, lstD, ix0, ix1, ix2, eq_s, ne_s, eq_i, ne_i, add_i, sub_i, in_t2, in_t3, List.length_map, n0, isTupD, Bool.not_true, Bool.not_false, lt_i, k2, k3, isStrD, hw', int_b, least_w, grpOk]
              | .bool _, hb => simp only [runB, fSeq, fIf, fRet, fAsg, fB, f1, f2, fA, fA0, fL, fV, fC, fTup, fLst, fNext, on1, on2, gN, gT, gsC, gs0, asB, fAnd, fOr, fBnd, fBor, fNot, fVB, fIte, fAndV, fOrV, notD, negD, fO, fO0, asI, fSl, fPar, List.map_cons, List.map_nil, List.length_cons, List.length_nil, List.reduceReplicate, List.cons_append, List.nil_append, List.append_nil, List.getElem?_cons_zero, List.getElem?_cons_succ, Option.join_some, Option.join_none, List.set_cons_zero, List.set_cons_succ, Option.bind_some, Option.bind_none, Option.map_some, Option.map_none, Nat.reduceSub, Nat.reduceAdd, Nat.reduceEqDiff, if_true, if_false, Bool.false_eq_true, reduceIte, Nat.zero_add, fComp, fItems, itemsOf, extOf, wipeE, fEnum, fRng1, fRng2, fSigns, lenD, tupD, lstD, ix0, ix1, ix2, eq_s, ne_s, eq_i, ne_i, add_i, sub_i, in_t2, in_t3, List.length_map, n0, isTupD, Bool.not_true, Bool.not_false, lt_i, k2, k3, isStrD, hw', int_b, least_w, grpOk]
              | .int _, hb => simp only [runB, fSeq, fIf, fRet, fAsg, fB, f1, f2, fA, fA0, fL, fV, fC, fTup, fLst, fNext, on1, on2, gN, gT, gsC, gs0, asB, fAnd, fOr, fBnd, fBor, fNot, fVB, fIte, fAndV, fOrV, notD, negD, fO, fO0, asI, fSl, fPar, List.map_cons, List.map_nil, List.length_cons, List.length_nil, List.reduceReplicate, List.cons_append, List.nil_append, List.append_nil, List.getElem?_cons_zero, List.getElem?_cons_succ, Option.join_some, Option.join_none, List.set_cons_zero, List.set_cons_succ, Option.bind_some, Option.bind_none, Option.map_some, Option.map_none, Nat.reduceSub, Nat.reduceAdd, Nat.reduceEqDiff, if_true, if_false, Bool.false_eq_true, reduceIte, Nat.zero_add, fComp, fItems, itemsOf, extOf, wipeE, fEnum, fRng1, fRng2, fSigns, lenD, tupD, lstD, ix0, ix1, ix2, eq_s, ne_s, eq_i, ne_i, add_i, sub_i, in_t2, in_t3, List.length_map, n0, isTupD, Bool.not_true, Bool.not_false, lt_i, k2, k3, isStrD, hw', int_b, least_w, grpOk]
              | .str _, hb => simp only [runB, fSeq, fIf, fRet, fAsg, fB, f1, f2, fA, fA0, fL, fV, fC, fTup, fLst, fNext, on1, on2, gN, gT, gsC, gs0, asB, fAnd, fOr, fBnd, fBor, fNot, fVB, fIte, fAndV, fOrV, notD, negD, fO, fO0, asI, fSl, fPar, List.map_cons, List.map_nil, List.length_cons, List.length_nil, List.reduceReplicate, List.cons_append, List.nil_append, List.append_nil, List.getElem?_cons_zero, List.getElem?_cons_succ, Option.join_some, Option.join_none, List.set_cons_zero, List.set_cons_succ, Option.bind_some, Option.bind_none, Option.map_some, Option.map_none, Nat.reduceSub, Nat.reduceAdd, Nat.reduceEqDiff, if_true, if_false, Bool.false_eq_true, reduceIte, Nat.zero_add, fComp, fItems, itemsOf, extOf, wipeE, fEnum, fRng1, fRng2, fSigns, lenD, tupD, lstD, ix0, ix1, ix2, eq_s, ne_s, eq_i, ne_i, add_i, sub_i, in_t2, in_t3, List.length_map, n0, isTupD, Bool.not_true, Bool.not_false, lt_i, k2, k3, isStrD, hw', int_b, least_w, grpOk]
              | .list _, hb => simp only [runB, fSeq, fIf, fRet, fAsg, fB, f1, f2, fA, fA0, fL, fV, fC, fTup, fLst, fNext, on1, on2, gN, gT, gsC, gs0, asB, fAnd, fOr, fBnd, fBor, fNot, fVB, fIte, fAndV, fOrV, notD, negD, fO, fO0, asI, fSl, fPar, List.map_cons, List.map_nil, List.length_cons, List.length_nil, List.reduceReplicate, List.cons_append, List.nil_append, List.append_nil, List.getElem?_cons_zero, List.getElem?_cons_succ, Option.join_some, Option.join_none, List.set_cons_zero, List.set_cons_succ, Option.bind_some, Option.bind_none, Option.map_some, Option.map_none, Nat.reduceSub, Nat.reduceAdd, Nat.reduceEqDiff, if_true, if_false, Bool.false_eq_true, reduceIte, Nat.zero_add, fComp, fItems, itemsOf, extOf, wipeE, fEnum, fRng1, fRng2, fSigns, lenD, tupD, lstD, ix0, ix1, ix2, eq_s, ne_s, eq_i, ne_i, add_i, sub_i, in_t2, in_t3, List.length_map, n0, isTupD, Bool.not_true, Bool.not_false, lt_i, k2, k3, isStrD, hw', int_b, least_w, grpOk]
              | .dict _, hb => simp only [runB, fSeq, fIf, fRet, fAsg, fB, f1, f2, fA, fA0, fL, fV, fC, fTup, fLst, fNext, on1, on2, gN, gT, gsC, gs0, asB, fAnd, fOr, fBnd, fBor, fNot, fVB, fIte, fAndV, fOrV, notD, negD, fO, fO0, asI, fSl, fPar, List.map_cons, List.map_nil, List.length_cons, List.length_nil, List.reduceReplicate, List.cons_append, List.nil_append, List.append_nil, List.getElem?_cons_zero, List.getElem?_cons_succ, Option.join_some, Option.join_none, List.set_cons_zero, List.set_cons_succ, Option.bind_some, Option.bind_none, Option.map_some, Option.map_none, Nat.reduceSub, Nat.reduceAdd, Nat.reduceEqDiff, if_true, if_false, Bool.false_eq_true, reduceIte, Nat.zero_add, fComp, fItems, itemsOf, extOf, wipeE, fEnum, fRng1, fRng2, fSigns, lenD, tupD, lstD, ix0, ix1, ix2, eq_s, ne_s, eq_i, ne_i, add_i, sub_i, in_t2, in_t3, List.length_map, n0, isTupD, Bool.not_true, Bool.not_false, lt_i, k2, k3, isStrD, hw', int_b, least_w, grpOk]
            | cons c r =>
              have e2 : (((r.length + 1 + 1 + 1 : Nat) : Int) == 2) = false := by rw [beq_eq_false_iff_ne]; omega
              have eg : grpOk (tk n) w (b :: c :: r) = false := by cases b <;> rfl
              rw [eg]
              simp only [List.length_cons] at l2
              simp only [runB, fSeq, fIf, fRet, fAsg, fB, f1, f2, fA, fA0, fL, fV, fC, fTup, fLst, fNext, on1, on2, gN, gT, gsC, gs0, asB, fAnd, fOr, fBnd, fBor, fNot, fVB, fIte, fAndV, fOrV, notD, negD, fO, fO0, asI, fSl, fPar, List.map_cons, List.map_nil, List.length_cons, List.length_nil, List.reduceReplicate, List.cons_append, List.nil_append, List.append_nil, List.getElem?_cons_zero, List.getElem?_cons_succ, Option.join_some, Option.join_none, List.set_cons_zero, List.set_cons_succ, Option.bind_some, Option.bind_none, Option.map_some, Option.map_none, Nat.reduceSub, Nat.reduceAdd, Nat.reduceEqDiff, if_true, if_false, Bool.false_eq_true, reduceIte, Nat.zero_add, fComp, fItems, itemsOf, extOf, wipeE, fEnum, fRng1, fRng2, fSigns, lenD, tupD, lstD, ix0, ix1, ix2, eq_s, ne_s, eq_i, ne_i, add_i, sub_i, in_t2, in_t3, List.length_map, n0, isTupD, Bool.not_true, Bool.not_false, lt_i, l2, isStrD, hw', int_b, least_w, e2]
          · have hw' : ((("all" : Str) == w || ((("any" : Str) == w) || (("then" : Str) == w))) : Bool) = false := by simpa [isGw] using hw
            have et : tk (n + 1) (.tuple (.str w :: b :: r)) = oneOk (tk n) w (b :: r) := by
              rw [tk]
              exact if_neg hw
            rw [et]
            match r, h with
            | [], h =>
              have k2 : decide (((2 : Nat) : Int) < 2) = false := rfl
              have k3 : (((2 : Nat) : Int) == 3) = false := rfl
              simp only [runB, fSeq, fIf, fRet, fAsg, fB, f1, f2, fA, fA0, fL, fV, fC, fTup, fLst, fNext, on1, on2, gN, gT, gsC, gs0, asB, fAnd, fOr, fBnd, fBor, fNot, fVB, fIte, fAndV, fOrV, notD, negD, fO, fO0, asI, fSl, fPar, List.map_cons, List.map_nil, List.length_cons, List.length_nil, List.reduceReplicate, List.cons_append, List.nil_append, List.append_nil, List.getElem?_cons_zero, List.getElem?_cons_succ, Option.join_some, Option.join_none, List.set_cons_zero, List.set_cons_succ, Option.bind_some, Option.bind_none, Option.map_some, Option.map_none, Nat.reduceSub, Nat.reduceAdd, Nat.reduceEqDiff, if_true, if_false, Bool.false_eq_true, reduceIte, Nat.zero_add, fComp, fItems, itemsOf, extOf, wipeE, fEnum, fRng1, fRng2, fSigns, lenD, tupD, lstD, ix0, ix1, ix2, eq_s, ne_s, eq_i, ne_i, add_i, sub_i, in_t2, in_t3, List.length_map, n0, isTupD, Bool.not_true, Bool.not_false, lt_i, k2, k3, isStrD, hw', oneOk]
            | [c], h =>
              have hc := gd_t h c (by simp)
              have k2 : decide (((3 : Nat) : Int) < 2) = false := rfl
              have k3 : (((3 : Nat) : Int) == 3) = true := rfl
              cases e1 : w == ("do" : Str) with
              | true =>
                cases e4 : isNm b with
                | true => simp only [runB, fSeq, fIf, fRet, fAsg, fB, f1, f2, fA, fA0, fL, fV, fC, fTup, fLst, fNext, on1, on2, gN, gT, gsC, gs0, asB, fAnd, fOr, fBnd, fBor, fNot, fVB, fIte, fAndV, fOrV, notD, negD, fO, fO0, asI, fSl, fPar, List.map_cons, List.map_nil, List.length_cons, List.length_nil, List.reduceReplicate, List.cons_append, List.nil_append, List.append_nil, List.getElem?_cons_zero, List.getElem?_cons_succ, Option.join_some, Option.join_none, List.set_cons_zero, List.set_cons_succ, Option.bind_some, Option.bind_none, Option.map_some, Option.map_none, Nat.reduceSub, Nat.reduceAdd, Nat.reduceEqDiff, if_true, if_false, Bool.false_eq_true, reduceIte, Nat.zero_add, fComp, fItems, itemsOf, extOf, wipeE, fEnum, fRng1, fRng2, fSigns, lenD, tupD, lstD, ix0, ix1, ix2, eq_s, ne_s, eq_i, ne_i, add_i, sub_i, in_t2, in_t3, List.length_map, n0, isTupD, Bool.not_true, lt_i, k2, k3, isStrD, hw', oneOk, F_name hb, F_whole, ih c hc, n1, e1, e4, Bool.true_and, Bool.false_and]
                | false => simp only [runB, fSeq, fIf, fRet, fAsg, fB, f1, f2, fA, fA0, fL, fV, fC, fTup, fLst, fNext, on1, on2, gN, gT, gsC, gs0, asB, fAnd, fOr, fBnd, fBor, fNot, fVB, fIte, fAndV, fOrV, notD, negD, fO, fO0, asI, fSl, fPar, List.map_cons, List.map_nil, List.length_cons, List.length_nil, List.reduceReplicate, List.cons_append, List.nil_append, List.append_nil, List.getElem?_cons_zero, List.getElem?_cons_succ, Option.join_some, Option.join_none, List.set_cons_zero, List.set_cons_succ, Option.bind_some, Option.bind_none, Option.map_some, Option.map_none, Nat.reduceSub, Nat.reduceAdd, Nat.reduceEqDiff, if_true, if_false, Bool.false_eq_true, reduceIte, Nat.zero_add, fComp, fItems, itemsOf, extOf, wipeE, fEnum, fRng1, fRng2, fSigns, lenD, tupD, lstD, ix0, ix1, ix2, eq_s, ne_s, eq_i, ne_i, add_i, sub_i, in_t2, in_t3, List.length_map, n0, isTupD, Bool.not_true, lt_i, k2, k3, isStrD, hw', oneOk, F_name hb, F_whole, ih c hc, n1, e1, e4, Bool.true_and, Bool.false_and]
              | false =>
                cases e2 : w == ("without" : Str) with
                | true =>
                  cases e4 : isNm b with
                  | true => simp only [runB, fSeq, fIf, fRet, fAsg, fB, f1, f2, fA, fA0, fL, fV, fC, fTup, fLst, fNext, on1, on2, gN, gT, gsC, gs0, asB, fAnd, fOr, fBnd, fBor, fNot, fVB, fIte, fAndV, fOrV, notD, negD, fO, fO0, asI, fSl, fPar, List.map_cons, List.map_nil, List.length_cons, List.length_nil, List.reduceReplicate, List.cons_append, List.nil_append, List.append_nil, List.getElem?_cons_zero, List.getElem?_cons_succ, Option.join_some, Option.join_none, List.set_cons_zero, List.set_cons_succ, Option.bind_some, Option.bind_none, Option.map_some, Option.map_none, Nat.reduceSub, Nat.reduceAdd, Nat.reduceEqDiff, if_true, if_false, Bool.false_eq_true, reduceIte, Nat.zero_add, fComp, fItems, itemsOf, extOf, wipeE, fEnum, fRng1, fRng2, fSigns, lenD, tupD, lstD, ix0, ix1, ix2, eq_s, ne_s, eq_i, ne_i, add_i, sub_i, in_t2, in_t3, List.length_map, n0, isTupD, Bool.not_true, lt_i, k2, k3, isStrD, hw', oneOk, F_name hb, F_whole, ih c hc, n1, e1, e2, e4, Bool.true_and, Bool.false_and]
                  | false => simp only [runB, fSeq, fIf, fRet, fAsg, fB, f1, f2, fA, fA0, fL, fV, fC, fTup, fLst, fNext, on1, on2, gN, gT, gsC, gs0, asB, fAnd, fOr, fBnd, fBor, fNot, fVB, fIte, fAndV, fOrV, notD, negD, fO, fO0, asI, fSl, fPar, List.map_cons, List.map_nil, List.length_cons, List.length_nil, List.reduceReplicate, List.cons_append, List.nil_append, List.append_nil, List.getElem?_cons_zero, List.getElem?_cons_succ, Option.join_some, Option.join_none, List.set_cons_zero, List.set_cons_succ, Option.bind_some, Option.bind_none, Option.map_some, Option.map_none, Nat.reduceSub, Nat.reduceAdd, Nat.reduceEqDiff, if_true, if_false, Bool.false_eq_true, reduceIte, Nat.zero_add, fComp, fItems, itemsOf, extOf, wipeE, fEnum, fRng1, fRng2, fSigns, lenD, tupD, lstD, ix0, ix1, ix2, eq_s, ne_s, eq_i, ne_i, add_i, sub_i, in_t2, in_t3, List.length_map, n0, isTupD, Bool.not_true, lt_i, k2, k3, isStrD, hw', oneOk, F_name hb, F_whole, ih c hc, n1, e1, e2, e4, Bool.true_and, Bool.false_and]
                | false =>
                  cases e3 : w == ("within" : Str) with
                  | true =>
                    cases e4 : isWh 1 9 b with
                    | true => simp only [runB, fSeq, fIf, fRet, fAsg, fB, f1, f2, fA, fA0, fL, fV, fC, fTup, fLst, fNext, on1, on2, gN, gT, gsC, gs0, asB, fAnd, fOr, fBnd, fBor, fNot, fVB, fIte, fAndV, fOrV, notD, negD, fO, fO0, asI, fSl, fPar, List.map_cons, List.map_nil, List.length_cons, List.length_nil, List.reduceReplicate, List.cons_append, List.nil_append, List.append_nil, List.getElem?_cons_zero, List.getElem?_cons_succ, Option.join_some, Option.join_none, List.set_cons_zero, List.set_cons_succ, Option.bind_some, Option.bind_none, Option.map_some, Option.map_none, Nat.reduceSub, Nat.reduceAdd, Nat.reduceEqDiff, if_true, if_false, Bool.false_eq_true, reduceIte, Nat.zero_add, fComp, fItems, itemsOf, extOf, wipeE, fEnum, fRng1, fRng2, fSigns, lenD, tupD, lstD, ix0, ix1, ix2, eq_s, ne_s, eq_i, ne_i, add_i, sub_i, in_t2, in_t3, List.length_map, n0, isTupD, Bool.not_true, lt_i, k2, k3, isStrD, hw', oneOk, F_name hb, F_whole, ih c hc, n1, e1, e2, e3, e4, Bool.true_and, Bool.false_and]
                    | false => simp only [runB, fSeq, fIf, fRet, fAsg, fB, f1, f2, fA, fA0, fL, fV, fC, fTup, fLst, fNext, on1, on2, gN, gT, gsC, gs0, asB, fAnd, fOr, fBnd, fBor, fNot, fVB, fIte, fAndV, fOrV, notD, negD, fO, fO0, asI, fSl, fPar, List.map_cons, List.map_nil, List.length_cons, List.length_nil, List.reduceReplicate, List.cons_append, List.nil_append, List.append_nil, List.getElem?_cons_zero, List.getElem?_cons_succ, Option.join_some, Option.join_none, List.set_cons_zero, List.set_cons_succ, Option.bind_some, Option.bind_none, Option.map_some, Option.map_none, Nat.reduceSub, Nat.reduceAdd, Nat.reduceEqDiff, if_true, if_false, Bool.false_eq_true, reduceIte, Nat.zero_add, fComp, fItems, itemsOf, extOf, wipeE, fEnum, fRng1, fRng2, fSigns, lenD, tupD, lstD, ix0, ix1, ix2, eq_s, ne_s, eq_i, ne_i, add_i, sub_i, in_t2, in_t3, List.length_map, n0, isTupD, Bool.not_true, lt_i, k2, k3, isStrD, hw', oneOk, F_name hb, F_whole, ih c hc, n1, e1, e2, e3, e4, Bool.true_and, Bool.false_and]
                  | false => simp only [runB, fSeq, fIf, fRet, fAsg, fB, f1, f2, fA, fA0, fL, fV, fC, fTup, fLst, fNext, on1, on2, gN, gT, gsC, gs0, asB, fAnd, fOr, fBnd, fBor, fNot, fVB, fIte, fAndV, fOrV, notD, negD, fO, fO0, asI, fSl, fPar, List.map_cons, List.map_nil, List.length_cons, List.length_nil, List.reduceReplicate, List.cons_append, List.nil_append, List.append_nil, List.getElem?_cons_zero, List.getElem?_cons_succ, Option.join_some, Option.join_none, List.set_cons_zero, List.set_cons_succ, Option.bind_some, Option.bind_none, Option.map_some, Option.map_none, Nat.reduceSub, Nat.reduceAdd, Nat.reduceEqDiff, if_true, if_false, Bool.false_eq_true, reduceIte, Nat.zero_add, fComp, fItems, itemsOf, extOf, wipeE, fEnum, fRng1, fRng2, fSigns, lenD, tupD, lstD, ix0, ix1, ix2, eq_s, ne_s, eq_i, ne_i, add_i, sub_i, in_t2, in_t3, List.length_map, n0, isTupD, Bool.not_true, lt_i, k2, k3, isStrD, hw', oneOk, F_name hb, F_whole, ih c hc, n1, e1, e2, e3, Bool.true_and, Bool.false_and]
            | c :: c2 :: r, h =>
              have e3 : (((r.length + 1 + 1 + 1 + 1 : Nat) : Int) == 3) = false := by rw [beq_eq_false_iff_ne]; omega
              simp only [List.length_cons] at l2
              simp only [runB, fSeq, fIf, fRet, fAsg, fB, f1, f2, fA, fA0, fL, fV, fC, fTup, fLst, fNext, on1, on2, gN, gT, gsC, gs0, asB, fAnd, fOr, fBnd, fBor, fNot, fVB, fIte, fAndV, fOrV, notD, negD, fO, fO0, asI, fSl, fPar, List.map_cons, List.map_nil, List.length_cons, List.length_nil, List.reduceReplicate, List.cons_append, List.nil_append, List.append_nil, List.getElem?_cons_zero, List.getElem?_cons_succ, Option.join_some, Option.join_none, List.set_cons_zero, List.set_cons_succ, Option.bind_some, Option.bind_none, Option.map_some, Option.map_none, Nat.reduceSub, Nat.reduceAdd, Nat.reduceEqDiff, if_true, if_false, Bool.false_eq_true, reduceIte, Nat.zero_add, fComp, fItems, itemsOf, extOf, wipeE, fEnum, fRng1, fRng2, fSigns, lenD, tupD, lstD, ix0, ix1, ix2, eq_s, ne_s, eq_i, ne_i, add_i, sub_i, in_t2, in_t3, List.length_map, n0, isTupD, Bool.not_true, Bool.not_false, lt_i, l2, isStrD, hw', oneOk, e3]
        · have hs' : isStrD a = false := by simpa using hs
          have e : tk (n + 1) (.tuple (a :: b :: r)) = false := by
            cases a with
            | str w => cases hs'
            | none => rfl
            | bool _ => rfl
            | int _ => rfl
            | list _ => rfl
            | tuple _ => rfl
            | dict _ => rfl
          rw [e]
          simp only [runB, fSeq, fIf, fRet, fAsg, fB, f1, f2, fA, fA0, fL, fV, fC, fTup, fLst, fNext, on1, on2, gN, gT, gsC, gs0, asB, fAnd, fOr, fBnd, fBor, fNot, fVB, fIte, fAndV, fOrV, notD, negD, fO, fO0, asI, fSl, fPar, List.map_cons, List.map_nil, List.length_cons, List.length_nil, List.reduceReplicate, List.cons_append, List.nil_append, List.append_nil, List.getElem?_cons_zero, List.getElem?_cons_succ, Option.join_some, Option.join_none, List.set_cons_zero, List.set_cons_succ, Option.bind_some, Option.bind_none, Option.map_some, Option.map_none, Nat.reduceSub, Nat.reduceAdd, Nat.reduceEqDiff, if_true, if_false, Bool.false_eq_true, reduceIte, Nat.zero_add, fComp, fItems, itemsOf, extOf, wipeE, fEnum, fRng1, fRng2, fSigns, lenD, tupD, lstD, ix0, ix1, ix2, eq_s, ne_s, eq_i, ne_i, add_i, sub_i, in_t2, in_t3, List.length_map, n0, isTupD, Bool.not_true, lt_i, l2, hs', Bool.not_false]
theorem F_tk {k : Nat} {d : PyData} (h : gd k d) : F_is_task [d] = some (.bool (tk 4 d)) := by
  have := G_tk 4 24 k d h (by omega)
  unfold F_is_task B_is_task
  simp only [runB, fSeq, fIf, fRet, fAsg, fB, f1, f2, fA, fA0, fL, fV, fC, fTup, fLst, fNext, on1, on2, gN, gT, gsC, gs0, asB, fAnd, fOr, fBnd, fBor, fNot, fVB, fIte, fAndV, fOrV, notD, negD, fO, fO0, asI, fSl, fPar, List.map_cons, List.map_nil, List.length_cons, List.length_nil, List.reduceReplicate, List.cons_append, List.nil_append, List.append_nil, List.getElem?_cons_zero, List.getElem?_cons_succ, Option.join_some, Option.join_none, List.set_cons_zero, List.set_cons_succ, Option.bind_some, Option.bind_none, Option.map_some, Option.map_none, Nat.reduceSub, Nat.reduceAdd, Nat.reduceEqDiff, if_true, if_false, Bool.false_eq_true, reduceIte, Nat.zero_add, fComp, fItems, itemsOf, extOf, wipeE, fEnum, fRng1, fRng2, fSigns, lenD, tupD, lstD, ix0, ix1, ix2, eq_s, ne_s, eq_i, ne_i, add_i, sub_i, in_t2, in_t3, List.length_map]
  exact congrArg (fun o => match (match o with | some d => Out.rt d | none => .bad : Out) with | .rt d => some d | .nx _ => some .none | .bad => none) this
end Tk

namespace Lk01
open PySem PySem.Spec PyProof.Rows L2 Tl Tk
def top (i : Nat) : Stmt := PySem.Challenge.pw_taletask_k01_tasks.main.body.getD i (.Pass ⟨0, 0, 0, 0⟩)
abbrev s_is_name : Stmt := top 8
abbrev s_is_whole : Stmt := top 9
abbrev s_is_task_to : Stmt := top 10
abbrev s_is_task : Stmt := top 11
abbrev s_tasks_in : Stmt := top 12
abbrev s_size : Stmt := top 13
abbrev s__law_cell_at : Stmt := top 15
abbrev s__law_mixed : Stmt := top 16
abbrev s__law_drawn : Stmt := top 17
abbrev s__law_any : Stmt := top 18
abbrev s__law_swapped : Stmt := top 19
abbrev s__law_task : Stmt := top 20
abbrev s__law_deeds : Stmt := top 21
abbrev s__law_is_name : Stmt := top 22
abbrev s__law_from : Stmt := top 23
abbrev s__law_is_task : Stmt := top 24
abbrev s__law_size : Stmt := top 25
abbrev s__law_spoilt : Stmt := top 26
abbrev s_law : Stmt := top 27
theorem sc_is_name : FnScope ["thing", "sign"] ["thing"] (defScope s_is_name) := ⟨rfl, rfl, rfl, by decide +kernel, rfl, by decide +kernel, by decide +kernel⟩
theorem sc_is_whole : FnScope ["thing", "low", "high"] ["thing", "low", "high"] (defScope s_is_whole) := ⟨rfl, rfl, rfl, by decide +kernel, rfl, by decide +kernel, by decide +kernel⟩
theorem sc_is_task_to : FnScope ["thing", "deep", "least", "part"] ["thing", "deep"] (defScope s_is_task_to) := ⟨rfl, rfl, rfl, by decide +kernel, rfl, by decide +kernel, by decide +kernel⟩
theorem sc_is_task : FnScope ["thing"] ["thing"] (defScope s_is_task) := ⟨rfl, rfl, rfl, by decide +kernel, rfl, by decide +kernel, by decide +kernel⟩
theorem sc_tasks_in : FnScope ["task"] ["task"] (defScope s_tasks_in) := ⟨rfl, rfl, rfl, by decide +kernel, rfl, by decide +kernel, by decide +kernel⟩
theorem sc_size : FnScope ["task", "part"] ["task"] (defScope s_size) := ⟨rfl, rfl, rfl, by decide +kernel, rfl, by decide +kernel, by decide +kernel⟩
theorem sc__law_cell_at : FnScope ["script", "k"] ["script", "k"] (defScope s__law_cell_at) := ⟨rfl, rfl, rfl, by decide +kernel, rfl, by decide +kernel, by decide +kernel⟩
theorem sc__law_mixed : FnScope ["script", "k", "drawn"] ["script", "k"] (defScope s__law_mixed) := ⟨rfl, rfl, rfl, by decide +kernel, rfl, by decide +kernel, by decide +kernel⟩
theorem sc__law_drawn : FnScope ["number", "k", "drawn"] ["number", "k"] (defScope s__law_drawn) := ⟨rfl, rfl, rfl, by decide +kernel, rfl, by decide +kernel, by decide +kernel⟩
theorem sc__law_any : FnScope ["number", "most", "signs", "k"] ["number", "most"] (defScope s__law_any) := ⟨rfl, rfl, rfl, by decide +kernel, rfl, by decide +kernel, by decide +kernel⟩
theorem sc__law_swapped : FnScope ["thing", "book", "part"] ["thing", "book"] (defScope s__law_swapped) := ⟨rfl, rfl, rfl, by decide +kernel, rfl, by decide +kernel, by decide +kernel⟩
theorem sc__law_task : FnScope ["number", "deep", "most", "deed", "kind", "many", "word", "k"] ["number", "deep", "most"] (defScope s__law_task) := ⟨rfl, rfl, rfl, by decide +kernel, rfl, by decide +kernel, by decide +kernel⟩
theorem sc__law_deeds : FnScope ["number", "most", "k"] ["number", "most"] (defScope s__law_deeds) := ⟨rfl, rfl, rfl, by decide +kernel, rfl, by decide +kernel, by decide +kernel⟩
theorem sc__law_is_name : FnScope ["thing", "sign"] ["thing"] (defScope s__law_is_name) := ⟨rfl, rfl, rfl, by decide +kernel, rfl, by decide +kernel, by decide +kernel⟩
theorem sc__law_from : FnScope ["thing", "low", "high"] ["thing", "low", "high"] (defScope s__law_from) := ⟨rfl, rfl, rfl, by decide +kernel, rfl, by decide +kernel, by decide +kernel⟩
theorem sc__law_is_task : FnScope ["thing", "deep", "part"] ["thing", "deep"] (defScope s__law_is_task) := ⟨rfl, rfl, rfl, by decide +kernel, rfl, by decide +kernel, by decide +kernel⟩
theorem sc__law_size : FnScope ["task", "part"] ["task"] (defScope s__law_size) := ⟨rfl, rfl, rfl, by decide +kernel, rfl, by decide +kernel, by decide +kernel⟩
theorem sc__law_spoilt : FnScope ["thing", "number", "deep", "at", "part", "some"] ["thing", "number", "deep"] (defScope s__law_spoilt) := ⟨rfl, rfl, rfl, by decide +kernel, rfl, by decide +kernel, by decide +kernel⟩
theorem sc_law : FnScope ["script", "number", "thing", "drawn", "plain", "one", "edges", "word", "others", "edge", "due", "found"] ["script"] (defScope s_law) := ⟨rfl, rfl, rfl, by decide +kernel, rfl, by decide +kernel, by decide +kernel⟩
def B__law_is_name : En → Out :=
  (fSeq (fIf (fOr (fNot (fB (f1 (fun d => some (.bool (isStrD d))) (fV 0)))) (fNot (fB (fLele (fC (.int 1)) (fL (on1 lenD) (fA (fV 0) fA0)) (fC (.int 5)))))) (fRet (fC (.bool false))) fNext)
  (fRet (f2 eqP (fComp [1] (fSigns (fV 0)) (gN 1) (fNot (fB (fLele (fC (.str "a")) (fV 1) (fC (.str "z"))))) (fV 1)) (fLst fA0))))
def F__law_is_name : List PyData → Option PyData := runB 1 2 B__law_is_name
def B__law_is_task (r : Nat → List PyData → Option PyData) : En → Out :=
  (fSeq (fIf (fOr (fB (f2 eqP (fV 1) (fC (.int 0)))) (fOr (fNot (fB (f1 (fun d => some (.bool (isTupD d))) (fV 0)))) (fOr (fB (f2 eqP (fV 0) (fTup fA0))) (fNot (fB (f1 (fun d => some (.bool (isStrD d))) (f2 ixD (fV 0) (fC (.int 0))))))))) (fRet (fC (.bool false))) fNext)
  (fSeq (fIf (fB (f2 neP (fL (on1 lenD) (fA (fV 0) fA0)) (f3 getD (fDict ["do", "without", "within", "all", "any", "then"] (fA (fC (.int 3)) (fA (fC (.int 3)) (fA (fC (.int 3)) (fA (fC (.int 2)) (fA (fC (.int 2)) (fA (fC (.int 2)) fA0))))))) (f2 ixD (fV 0) (fC (.int 0))) (fC (.int 0))))) (fRet (fC (.bool false))) fNext)
  (fSeq (fIf (fB (f2 eqP (f2 ixD (fV 0) (fC (.int 0))) (fC (.str "do")))) (fRet (fAndV (fL F__law_is_name (fA (f2 ixD (fV 0) (fC (.int 1))) fA0)) (fL F__law_from (fA (f2 ixD (fV 0) (fC (.int 2))) (fA (fC (.int 1)) (fA (fC (.int 4)) fA0)))))) fNext)
  (fSeq (fIf (fB (f2 eqP (f2 ixD (fV 0) (fC (.int 0))) (fC (.str "without")))) (fRet (fAndV (fL F__law_is_name (fA (f2 ixD (fV 0) (fC (.int 1))) fA0)) (fL (r 0) (fA (f2 ixD (fV 0) (fC (.int 2))) (fA (f2 subD (fV 1) (fC (.int 1))) fA0))))) fNext)
  (fSeq (fIf (fB (f2 eqP (f2 ixD (fV 0) (fC (.int 0))) (fC (.str "within")))) (fRet (fAndV (fL F__law_from (fA (f2 ixD (fV 0) (fC (.int 1))) (fA (fC (.int 1)) (fA (fC (.int 9)) fA0)))) (fL (r 0) (fA (f2 ixD (fV 0) (fC (.int 2))) (fA (f2 subD (fV 1) (fC (.int 1))) fA0))))) fNext)
  (fSeq (fIf (fOr (fNot (fB (f1 (fun d => some (.bool (isTupD d))) (f2 ixD (fV 0) (fC (.int 1)))))) (fNot (fB (fLele (f2 addD (fC (.int 1)) (fL (on1 intD) (fA (f2 eqP (f2 ixD (fV 0) (fC (.int 0))) (fC (.str "then"))) fA0))) (fL (on1 lenD) (fA (f2 ixD (fV 0) (fC (.int 1))) fA0)) (fC (.int 3)))))) (fRet (fC (.bool false))) fNext)
  (fRet (f2 eqP (fComp [2] (fItems (f2 ixD (fV 0) (fC (.int 1)))) (gN 2) (fNot (fB (fL (r 0) (fA (fV 2) (fA (f2 subD (fV 1) (fC (.int 1))) fA0))))) (fV 2)) (fLst fA0)))))))))
def G__law_is_task : Nat → Nat → List PyData → Option PyData
  | 0 => fun _ _ => none
  | n + 1 => fun k => match k with
    | _ => runB 2 3 (B__law_is_task (G__law_is_task n))
def F__law_is_task : List PyData → Option PyData := G__law_is_task fuel 0
def B__law_spoilt (r : Nat → List PyData → Option PyData) : En → Out :=
  (fSeq (fIf (fAnd (fB (f2 gtD (fV 2) (fC (.int 0)))) (fAnd (fB (f1 (fun d => some (.bool (isTupD d))) (fV 0))) (fAnd (fB (f2 gtD (fL (on1 lenD) (fA (fV 0) fA0)) (fC (.int 0)))) (fB (f2 gtD (f2 modD (fV 1) (fC (.int 6))) (fC (.int 0))))))) (fSeq (fAsg (f2 modD (f2 fdvD (fV 1) (fC (.int 6))) (fL (on1 lenD) (fA (fV 0) fA0))) (gN 3))
  (fSeq (fAsg (fL (r 0) (fA (f2 ixD (fV 0) (fV 3)) (fA (f2 fdvD (fL F__law_drawn (fA (fV 1) (fA (fV 2) fA0))) (fC (.int 4))) (fA (f2 subD (fV 2) (fC (.int 1))) fA0)))) (gN 4))
  (fRet (f2 addD (f2 addD (fSl (fV 0) fO0 (fO (fV 3))) (fTup (fA (fV 4) fA0))) (fSl (fV 0) (fO (f2 addD (fV 3) (fC (.int 1)))) fO0))))) fNext)
  (fSeq (fIf (fAnd (fB (f1 (fun d => some (.bool (isTupD d))) (fV 0))) (fAnd (fB (f2 gtD (fL (on1 lenD) (fA (fV 0) fA0)) (fC (.int 0)))) (fB (f2 eqP (f2 modD (f2 fdvD (fV 1) (fC (.int 6))) (fC (.int 2))) (fC (.int 0)))))) (fRet (f2 ixD (fLst (fA (fL (on1 lstD) (fA (fV 0) fA0)) (fA (fSl (fV 0) fO0 (fO (f1 negD (fC (.int 1))))) (fA (f2 addD (fV 0) (fSl (fV 0) (fO (f1 negD (fC (.int 1)))) fO0)) (fA (fSl (fV 0) (fO (fC (.int 1))) fO0) (fA (f1 revD (fV 0)) (fA (f2 mulD (fV 0) (fC (.int 2))) fA0))))))) (f2 modD (f2 fdvD (fV 1) (fC (.int 12))) (fC (.int 6))))) fNext)
  (fSeq (fIf (fAnd (fB (f1 (fun d => some (.bool (isIntD d))) (fV 0))) (fB (f2 eqP (f2 modD (f2 fdvD (fV 1) (fC (.int 6))) (fC (.int 2))) (fC (.int 0))))) (fRet (f2 ixD (fLst (fA (fL (on1 strD) (fA (fV 0) fA0)) (fA (f2 subD (fC (.int 0)) (fV 0)) (fA (f2 addD (fV 0) (fC (.int 1))) (fA (f2 eqP (fV 0) (fC (.int 1))) (fA (f2 addD (fV 0) (fC (.int 5))) (fA (fC (.int 0)) fA0))))))) (f2 modD (f2 fdvD (fV 1) (fC (.int 12))) (fC (.int 6))))) fNext)
  (fSeq (fAsg (fLst (fA (fC .none) (fA (fC (.bool true)) (fA (fC (.int 0)) (fA (fC (.int 4)) (fA (fC (.int 5)) (fA (fC (.int 9)) (fA (fC (.int 10)) (fA (fC (.str "")) (fA (fC (.str "a")) (fA (fC (.str "sixsix")) (fA (fC (.str "A")) (fA (fC (.str "do")) (fA (fC (.str "all")) (fA (fC (.str "then")) (fA (fTup fA0) (fA (fTup (fA (fC (.str "do")) (fA (fC (.str "a")) (fA (fC (.int 1)) fA0)))) (fA (fLst fA0) fA0)))))))))))))))))) (gN 5))
  (fSeq (fAsg (f2 addD (fV 5) (fLst (fA (fTup (fA (fC (.str "do")) (fA (fC (.str "a")) (fA (fC (.int 5)) fA0)))) (fA (fTup (fA (fC (.str "within")) (fA (fC (.int 10)) (fA (fTup (fA (fC (.str "do")) (fA (fC (.str "a")) (fA (fC (.int 1)) fA0)))) fA0)))) (fA (fTup (fA (fC (.str "then")) (fA (fTup (fA (fTup (fA (fC (.str "do")) (fA (fC (.str "a")) (fA (fC (.int 1)) fA0)))) fA0)) fA0))) (fA (fC (.str "without")) fA0)))))) (gN 5))
  (fRet (f2 ixD (fV 5) (f2 modD (f2 fdvD (fV 1) (fC (.int 6))) (fC (.int 21))))))))))
def G__law_spoilt : Nat → Nat → List PyData → Option PyData
  | 0 => fun _ _ => none
  | n + 1 => fun k => match k with
    | _ => runB 3 6 (B__law_spoilt (G__law_spoilt n))
def F__law_spoilt : List PyData → Option PyData := G__law_spoilt fuel 0
def B_law : En → Out :=
  (fSeq (fAsg (fL F__law_mixed (fA (fV 0) (fA (fC (.int 0)) fA0))) (gN 1))
  (fSeq (fAsg (fL F__law_task (fA (fL F__law_mixed (fA (fV 0) (fA (fC (.int 1)) fA0))) (fA (f2 addD (fC (.int 1)) (f2 modD (f2 fdvD (fV 1) (fC (.int 8))) (fC (.int 5)))) (fA (fC (.int 4)) fA0)))) (gN 2))
  (fSeq (fAsg (fL F__law_swapped (fA (fV 2) (fA (fDict ["b"] (fA (fL F__law_any (fA (fL F__law_mixed (fA (fV 0) (fA (fC (.int 7)) fA0))) (fA (fC (.int 5)) fA0))) fA0)) fA0))) (gN 2))
  (fSeq (fIf (fB (f2 gtD (f2 modD (fV 1) (fC (.int 3))) (fC (.int 0)))) (fAsg (fL F__law_spoilt (fA (fV 2) (fA (fL F__law_mixed (fA (fV 0) (fA (fC (.int 2)) fA0))) (fA (f2 modD (f2 fdvD (fV 1) (fC (.int 64))) (fC (.int 7))) fA0)))) (gN 2)) fNext)
  (fSeq (fAsg (fL F__law_mixed (fA (fV 0) (fA (fC (.int 3)) fA0))) (gN 3))
  (fSeq (fAsg (fTup (fA (fC (.str "do")) (fA (fSl (fC (.str "abcdefg")) fO0 (fO (f2 addD (fC (.int 4)) (f2 modD (fV 3) (fC (.int 3)))))) (fA (f2 addD (fC (.int 3)) (f2 modD (f2 fdvD (fV 3) (fC (.int 4))) (fC (.int 3)))) fA0)))) (gN 4))
  (fSeq (fAsg (fTup (fA (fC (.str "do")) (fA (fC (.str "a")) (fA (fC (.int 1)) fA0)))) (gN 5))
  (fSeq (fAsg (fLst (fA (fV 4) (fA (fTup (fA (fC (.str "within")) (fA (f2 addD (fC (.int 8)) (f2 modD (f2 fdvD (fV 3) (fC (.int 16))) (fC (.int 3)))) (fA (fV 5) fA0)))) (fA (fTup (fA (fC (.str "without")) (fA (fSl (fC (.str "abcdefg")) fO0 (fO (f2 addD (fC (.int 4)) (f2 modD (fV 3) (fC (.int 3)))))) (fA (fV 5) fA0)))) fA0)))) (gN 6))
  (fSeq (fFor (fItems (fTup (fA (fC (.str "all")) (fA (fC (.str "any")) (fA (fC (.str "then")) fA0))))) (gN 7) (fApp 6 (fTup (fA (fV 7) (fA (f2 mulD (fTup (fA (fV 5) fA0)) (f2 addD (fC (.int 1)) (f2 modD (f2 fdvD (fV 3) (fC (.int 64))) (fC (.int 4))))) fA0)))))
  (fSeq (fAsg (fLst (fA (fTup fA0) (fA (fLst fA0) (fA (fC (.int 5)) (fA (fC .none) (fA (fC (.str "do")) (fA (fLst (fA (fC (.str "do")) (fA (fC (.str "a")) (fA (fC (.int 1)) fA0)))) (fA (fTup (fA (fC (.str "do")) fA0)) (fA (fTup (fA (fC (.str "all")) (fA (fLst (fA (fV 5) fA0)) fA0))) (fA (fTup (fA (fC (.str "all")) (fA (fTup (fA (fC (.int 5)) fA0)) fA0))) (fA (fTup (fA (fC (.str "do")) (fA (fC (.str "a")) (fA (fC (.bool true)) fA0)))) fA0))))))))))) (gN 8))
  (fSeq (fAsg (f2 addD (fV 8) (fLst (fA (fTup (fA (fC (.str "within")) (fA (fC (.bool true)) (fA (fV 5) fA0)))) (fA (fTup (fA (fC (.str "without")) (fA (fC (.int 5)) (fA (fV 5) fA0)))) (fA (fTup (fA (fC (.str "all")) (fA (fTup (fA (fTup fA0) fA0)) fA0))) (fA (fTup (fA (fC (.str "within")) (fA (fC (.int 2)) (fA (fLst fA0) fA0)))) fA0)))))) (gN 8))
  (fSeq (fApp 6 (f2 ixD (fV 8) (f2 modD (f2 fdvD (fV 3) (fC (.int 256))) (fC (.int 14)))))
  (fSeq (fFor (fItems (fV 6)) (gN 9) (fIf (fB (f2 neP (fL F_is_task (fA (fV 9) fA0)) (fL F__law_is_task (fA (fV 9) (fA (fC (.int 4)) fA0))))) (fRet (fC (.bool false))) fNext))
  (fSeq (fAsg (fL F__law_is_task (fA (fV 2) (fA (fC (.int 4)) fA0))) (gN 10))
  (fSeq (fAsg (fL F_is_task (fA (fV 2) fA0)) (gN 11))
  (fSeq (fIf (fOr (fNot (fB (f1 (fun d => some (.bool (isBoolD d))) (fV 11)))) (fB (f2 neP (fV 11) (fV 10)))) (fRet (fC (.bool false))) fNext)
  (fRet (fOrV (f1 notD (fV 10)) (f2 eqP (fL F_size (fA (fV 2) fA0)) (fL F__law_size (fA (fV 2) fA0)))))))))))))))))))))
def F_law : List PyData → Option PyData := runB 1 12 B_law
structure Ad where
  (a_is_name : Addr) (d_is_name : FuncData)
  (a_is_whole : Addr) (d_is_whole : FuncData)
  (a_is_task_to : Addr) (d_is_task_to : FuncData)
  (a_is_task : Addr) (d_is_task : FuncData)
  (a_tasks_in : Addr) (d_tasks_in : FuncData)
  (a_size : Addr) (d_size : FuncData)
  (a__law_cell_at : Addr) (d__law_cell_at : FuncData)
  (a__law_mixed : Addr) (d__law_mixed : FuncData)
  (a__law_drawn : Addr) (d__law_drawn : FuncData)
  (a__law_any : Addr) (d__law_any : FuncData)
  (a__law_swapped : Addr) (d__law_swapped : FuncData)
  (a__law_task : Addr) (d__law_task : FuncData)
  (a__law_deeds : Addr) (d__law_deeds : FuncData)
  (a__law_is_name : Addr) (d__law_is_name : FuncData)
  (a__law_from : Addr) (d__law_from : FuncData)
  (a__law_is_task : Addr) (d__law_is_task : FuncData)
  (a__law_size : Addr) (d__law_size : FuncData)
  (a__law_spoilt : Addr) (d__law_spoilt : FuncData)
  (a_law : Addr) (d_law : FuncData)
structure Txt (K : PySem.W.Frag) (mg : Str → Option Value) (A : Ad) : Prop where
  F_is_name : Fun K "is_name" "is_name" s_is_name A.a_is_name A.d_is_name
  m_is_name : mg "is_name" = some (.ref A.a_is_name)
  b_is_name : Binds K A.d_is_name ["thing"] []
  F_is_whole : Fun K "is_whole" "is_whole" s_is_whole A.a_is_whole A.d_is_whole
  m_is_whole : mg "is_whole" = some (.ref A.a_is_whole)
  b_is_whole : Binds K A.d_is_whole ["thing", "low", "high"] []
  F_is_task_to : Fun K "is_task_to" "is_task_to" s_is_task_to A.a_is_task_to A.d_is_task_to
  m_is_task_to : mg "is_task_to" = some (.ref A.a_is_task_to)
  b_is_task_to : Binds K A.d_is_task_to ["thing", "deep"] []
  F_is_task : Fun K "is_task" "is_task" s_is_task A.a_is_task A.d_is_task
  m_is_task : mg "is_task" = some (.ref A.a_is_task)
  b_is_task : Binds K A.d_is_task ["thing"] []
  F_tasks_in : Fun K "tasks_in" "tasks_in" s_tasks_in A.a_tasks_in A.d_tasks_in
  m_tasks_in : mg "tasks_in" = some (.ref A.a_tasks_in)
  b_tasks_in : Binds K A.d_tasks_in ["task"] []
  F_size : Fun K "size" "size" s_size A.a_size A.d_size
  m_size : mg "size" = some (.ref A.a_size)
  b_size : Binds K A.d_size ["task"] []
  F__law_cell_at : Fun K "_law_cell_at" "_law_cell_at" s__law_cell_at A.a__law_cell_at A.d__law_cell_at
  m__law_cell_at : mg "_law_cell_at" = some (.ref A.a__law_cell_at)
  b__law_cell_at : Binds K A.d__law_cell_at ["script", "k"] []
  F__law_mixed : Fun K "_law_mixed" "_law_mixed" s__law_mixed A.a__law_mixed A.d__law_mixed
  m__law_mixed : mg "_law_mixed" = some (.ref A.a__law_mixed)
  b__law_mixed : Binds K A.d__law_mixed ["script", "k"] []
  F__law_drawn : Fun K "_law_drawn" "_law_drawn" s__law_drawn A.a__law_drawn A.d__law_drawn
  m__law_drawn : mg "_law_drawn" = some (.ref A.a__law_drawn)
  b__law_drawn : Binds K A.d__law_drawn ["number", "k"] []
  F__law_any : Fun K "_law_any" "_law_any" s__law_any A.a__law_any A.d__law_any
  m__law_any : mg "_law_any" = some (.ref A.a__law_any)
  b__law_any : Binds K A.d__law_any ["number", "most"] []
  F__law_swapped : Fun K "_law_swapped" "_law_swapped" s__law_swapped A.a__law_swapped A.d__law_swapped
  m__law_swapped : mg "_law_swapped" = some (.ref A.a__law_swapped)
  b__law_swapped : Binds K A.d__law_swapped ["thing", "book"] []
  F__law_task : Fun K "_law_task" "_law_task" s__law_task A.a__law_task A.d__law_task
  m__law_task : mg "_law_task" = some (.ref A.a__law_task)
  b__law_task : Binds K A.d__law_task ["number", "deep", "most"] []
  F__law_deeds : Fun K "_law_deeds" "_law_deeds" s__law_deeds A.a__law_deeds A.d__law_deeds
  m__law_deeds : mg "_law_deeds" = some (.ref A.a__law_deeds)
  b__law_deeds : Binds K A.d__law_deeds ["number", "most"] []
  F__law_is_name : Fun K "_law_is_name" "_law_is_name" s__law_is_name A.a__law_is_name A.d__law_is_name
  m__law_is_name : mg "_law_is_name" = some (.ref A.a__law_is_name)
  b__law_is_name : Binds K A.d__law_is_name ["thing"] []
  F__law_from : Fun K "_law_from" "_law_from" s__law_from A.a__law_from A.d__law_from
  m__law_from : mg "_law_from" = some (.ref A.a__law_from)
  b__law_from : Binds K A.d__law_from ["thing", "low", "high"] []
  F__law_is_task : Fun K "_law_is_task" "_law_is_task" s__law_is_task A.a__law_is_task A.d__law_is_task
  m__law_is_task : mg "_law_is_task" = some (.ref A.a__law_is_task)
  b__law_is_task : Binds K A.d__law_is_task ["thing", "deep"] []
  F__law_size : Fun K "_law_size" "_law_size" s__law_size A.a__law_size A.d__law_size
  m__law_size : mg "_law_size" = some (.ref A.a__law_size)
  b__law_size : Binds K A.d__law_size ["task"] []
  F__law_spoilt : Fun K "_law_spoilt" "_law_spoilt" s__law_spoilt A.a__law_spoilt A.d__law_spoilt
  m__law_spoilt : mg "_law_spoilt" = some (.ref A.a__law_spoilt)
  b__law_spoilt : Binds K A.d__law_spoilt ["thing", "number", "deep"] []
  F_law : Fun K "law" "law" s_law A.a_law A.d_law
  m_law : mg "law" = some (.ref A.a_law)
  b_law : Binds K A.d_law ["script"] []
  z_isinstance : mg "isinstance" = none
  z_str : mg "str" = none
  z_len : mg "len" = none
  z_all : mg "all" = none
  z_int : mg "int" = none
  z_bool : mg "bool" = none
  z_tuple : mg "tuple" = none
  z_sum : mg "sum" = none
  z_range : mg "range" = none
  z_max : mg "max" = none
  z_list : mg "list" = none
  c_LONGEST : GC K mg "LONGEST" (.int 5)
  c_LETTERS : GC K mg "LETTERS" (.str "abcdefghijklmnopqrstuvwxyz")
  c_GROUPS : GC K mg "GROUPS" (.tuple [(.str "all"), (.str "any"), (.str "then")])
  c_MOST_TASKS : GC K mg "MOST_TASKS" (.int 3)
  c_MOST_OFTEN : GC K mg "MOST_OFTEN" (.int 4)
  c_MOST_WITHIN : GC K mg "MOST_WITHIN" (.int 9)
  c_DEEPEST : GC K mg "DEEPEST" (.int 4)
section
variable {P : Program} {w : World} {K : PySem.W.Frag} {mg : Str → Option Value} {base : Heap} {A : Ad}
theorem ok_is_name (T : Txt K mg A) : FnOk P w K mg base CX0 1 A.a_is_name A.d_is_name ["thing"] (spP K F_is_name) := by
  obtain ⟨gv_LONGEST, gu_LONGEST, gm_LONGEST, gr_LONGEST, gd_LONGEST⟩ := T.c_LONGEST
  obtain ⟨gv_LETTERS, gu_LETTERS, gm_LETTERS, gr_LETTERS, gd_LETTERS⟩ := T.c_LETTERS
  refine fn_ok (k := 0) T.F_is_name sc_is_name ?_
  intro cdv Ar outer s H E hr
  have h64 := hr.units
  have h65 := u65 hr
  have hu := hu_of hr
  unfold B_is_name
  exact ⟨[], _, (pd_one1 (pd_ret (pd_and (pd_isi is_str T.z_isinstance T.z_str (by decide +kernel) (pd_v 0)) (pd_and (pd_lele pd_int (pd_len T.z_len (pd_v 0)) (pd_glob (by rfl) gm_LONGEST gr_LONGEST gd_LONGEST)) (pd_one (pd_all rfl T.z_all (pd_lc (te := (tOp (rInA K) (tVar 1) (tC gv_LETTERS))) (tt := tYes) (tgt := (gName 1)) [("sign", 1)] rfl sc_is_name.nd (pi_t (pd_v 0)) (blkOk_by (N := ["thing", "sign"]) (sc := defScope s_is_name) (by decide +kernel)) (wok_n (by decide)) (fun _ _ _ _ _ => (pg_n 1 sc_is_name.nd)) (fun _ _ _ _ _ => pd_if0) (fun _ _ _ _ _ => (pd_in h65 (pd_v 1) (pd_glob (by rfl) gm_LETTERS gr_LETTERS gd_LETTERS))))))))))⟩
theorem ok_is_whole (T : Txt K mg A) : FnOk P w K mg base CX0 1 A.a_is_whole A.d_is_whole ["thing", "low", "high"] (spP K F_is_whole) := by
  refine fn_ok (k := 0) T.F_is_whole sc_is_whole ?_
  intro cdv Ar outer s H E hr
  have h64 := hr.units
  have h65 := u65 hr
  have hu := hu_of hr
  unfold B_is_whole
  exact ⟨[], _, (pd_one1 (pd_ret (pd_and (pd_isi is_int T.z_isinstance T.z_int (by decide +kernel) (pd_v 0)) (pd_and (pd_not (pd_isi is_bool T.z_isinstance T.z_bool (by decide +kernel) (pd_v 0))) (pd_one (pd_lele (pd_v 1) (pd_v 0) (pd_v 2)))))))⟩
theorem st_is_task_to (T : Txt K mg A) {n : Nat} (ih0 : FnOk P w K mg base CX0 (1 + n) A.a_is_task_to A.d_is_task_to ["thing", "deep"] (spP K (G_is_task_to n 0))) : FnOk P w K mg base CX0 (1 + (n + 1)) A.a_is_task_to A.d_is_task_to ["thing", "deep"] (spP K (G_is_task_to (n + 1) 0)) := by
  obtain ⟨gv_GROUPS, gu_GROUPS, gm_GROUPS, gr_GROUPS, gd_GROUPS⟩ := T.c_GROUPS
  obtain ⟨gv_MOST_TASKS, gu_MOST_TASKS, gm_MOST_TASKS, gr_MOST_TASKS, gd_MOST_TASKS⟩ := T.c_MOST_TASKS
  obtain ⟨gv_MOST_OFTEN, gu_MOST_OFTEN, gm_MOST_OFTEN, gr_MOST_OFTEN, gd_MOST_OFTEN⟩ := T.c_MOST_OFTEN
  obtain ⟨gv_MOST_WITHIN, gu_MOST_WITHIN, gm_MOST_WITHIN, gr_MOST_WITHIN, gd_MOST_WITHIN⟩ := T.c_MOST_WITHIN
  refine fn_ok (k := 1 + n) T.F_is_task_to sc_is_task_to ?_
  intro cdv Ar outer s H E hr
  have h64 := hr.units
  have h65 := u65 hr
  have hu := hu_of hr
  unfold B_is_task_to
  exact ⟨[], _, (pd_seq (pd_if (pdt_w (pdw_or (pdt_eq h64 (pd_v 1) pd_int) (pdw_or (pdt_not (pdt_v (pd_isi is_tup T.z_isinstance T.z_tuple (by decide +kernel) (pd_v 0)))) (pdw_or (pdt_lt (pd_len T.z_len (pd_v 0)) pd_int) (pdw_or1 (pdt_not (pdt_v (pd_isi is_str T.z_isinstance T.z_str (by decide +kernel) (pd_ix (pd_v 0) pd_int))))))))) (pd_one1 (pd_ret pd_bl)) pd_nil)
  (pd_seq (pd_if (pdt_in h65 (pd_ix (pd_v 0) pd_int) (pd_glob (by rfl) gm_GROUPS gr_GROUPS gd_GROUPS)) (pd_seq (pd_set 2 sc_is_task_to.nd (pd_add pd_int (pd_toInt T.z_int (pd_eq h64 (pd_ix (pd_v 0) pd_int) pd_str))))
  (pd_seq (pd_if (pdt_w (pdw_or (pdt_ne h64 (pd_len T.z_len (pd_v 0)) pd_int) (pdw_or (pdt_not (pdt_v (pd_isi is_tup T.z_isinstance T.z_tuple (by decide +kernel) (pd_ix (pd_v 0) pd_int)))) (pdw_or1 (pdt_not (pdt_lele (pd_v 2) (pd_len T.z_len (pd_ix (pd_v 0) pd_int)) (pd_glob (by rfl) gm_MOST_TASKS gr_MOST_TASKS gd_MOST_TASKS))))))) (pd_one1 (pd_ret pd_bl)) pd_nil)
  (pd_one1 (pd_ret (pd_all rfl T.z_all (pd_lc (te := (tCall (spP K (G_is_task_to n 0)) [] E0 (tCons (tVar 3) (tCons (tOp (rI0 fun i j => .int (i - j)) (tVar 1) (tC (.int 1))) tNil)))) (tt := tYes) (tgt := (gName 3)) [("part", 3)] rfl sc_is_task_to.nd (pi_s (pd_ix (pd_v 0) pd_int)) (blkOk_by (N := ["thing", "deep", "least", "part"]) (sc := defScope s_is_task_to) (by decide +kernel)) (wok_n (by decide)) (fun _ _ _ _ _ => (pg_n 3 sc_is_task_to.nd)) (fun _ _ _ _ _ => pd_if0) (fun _ _ _ _ _ => (pd_call ih0 hr T.m_is_task_to T.F_is_task_to.kp T.b_is_task_to (pd_a (pd_v 3) (pd_a (pd_sub (pd_v 1) pd_int) pd_a0)))))))))) pd_nil)
  (pd_seq (pd_if (pdt_ne h64 (pd_len T.z_len (pd_v 0)) pd_int) (pd_one1 (pd_ret pd_bl)) pd_nil)
  (pd_seq (pd_if (pdt_eq h64 (pd_ix (pd_v 0) pd_int) pd_str) (pd_one1 (pd_ret (pd_and (pd_call (ok_is_name T) (hr.mono (by first | decide | omega)) T.m_is_name T.F_is_name.kp T.b_is_name (pd_a (pd_ix (pd_v 0) pd_int) pd_a0)) (pd_one (pd_call (ok_is_whole T) (hr.mono (by first | decide | omega)) T.m_is_whole T.F_is_whole.kp T.b_is_whole (pd_a (pd_ix (pd_v 0) pd_int) (pd_a pd_int (pd_a (pd_glob (by rfl) gm_MOST_OFTEN gr_MOST_OFTEN gd_MOST_OFTEN) pd_a0)))))))) pd_nil)
  (pd_seq (pd_if (pdt_eq h64 (pd_ix (pd_v 0) pd_int) pd_str) (pd_one1 (pd_ret (pd_and (pd_call (ok_is_name T) (hr.mono (by first | decide | omega)) T.m_is_name T.F_is_name.kp T.b_is_name (pd_a (pd_ix (pd_v 0) pd_int) pd_a0)) (pd_one (pd_call ih0 hr T.m_is_task_to T.F_is_task_to.kp T.b_is_task_to (pd_a (pd_ix (pd_v 0) pd_int) (pd_a (pd_sub (pd_v 1) pd_int) pd_a0))))))) pd_nil)
  (pd_one1 (pd_ret (pd_and (pd_eq h64 (pd_ix (pd_v 0) pd_int) pd_str) (pd_and (pd_call (ok_is_whole T) (hr.mono (by first | decide | omega)) T.m_is_whole T.F_is_whole.kp T.b_is_whole (pd_a (pd_ix (pd_v 0) pd_int) (pd_a pd_int (pd_a (pd_glob (by rfl) gm_MOST_WITHIN gr_MOST_WITHIN gd_MOST_WITHIN) pd_a0)))) (pd_one (pd_call ih0 hr T.m_is_task_to T.F_is_task_to.kp T.b_is_task_to (pd_a (pd_ix (pd_v 0) pd_int) (pd_a (pd_sub (pd_v 1) pd_int) pd_a0)))))))))))))⟩
theorem all_is_task_to (T : Txt K mg A) : ∀ n : Nat, FnOk P w K mg base CX0 (1 + n) A.a_is_task_to A.d_is_task_to ["thing", "deep"] (spP K (G_is_task_to n 0))
  | 0 => fn_none
  | n + 1 => by
    have ih := all_is_task_to T n
    exact st_is_task_to T ih
theorem ok_is_task_to (T : Txt K mg A) : FnOk P w K mg base CX0 25 A.a_is_task_to A.d_is_task_to ["thing", "deep"] (spP K F_is_task_to) := all_is_task_to T fuel
theorem ok_is_task (T : Txt K mg A) : FnOk P w K mg base CX0 26 A.a_is_task A.d_is_task ["thing"] (spP K F_is_task) := by
  obtain ⟨gv_DEEPEST, gu_DEEPEST, gm_DEEPEST, gr_DEEPEST, gd_DEEPEST⟩ := T.c_DEEPEST
  refine fn_ok (k := 25) T.F_is_task sc_is_task ?_
  intro cdv Ar outer s H E hr
  have h64 := hr.units
  have h65 := u65 hr
  have hu := hu_of hr
  unfold B_is_task
  exact ⟨[], _, (pd_one1 (pd_ret (pd_call (ok_is_task_to T) (hr.mono (by first | decide | omega)) T.m_is_task_to T.F_is_task_to.kp T.b_is_task_to (pd_a (pd_v 0) (pd_a (pd_glob (by rfl) gm_DEEPEST gr_DEEPEST gd_DEEPEST) pd_a0)))))⟩
theorem ok_tasks_in (T : Txt K mg A) : FnOk P w K mg base CX0 1 A.a_tasks_in A.d_tasks_in ["task"] (spP K F_tasks_in) := by
  obtain ⟨gv_GROUPS, gu_GROUPS, gm_GROUPS, gr_GROUPS, gd_GROUPS⟩ := T.c_GROUPS
  refine fn_ok (k := 0) T.F_tasks_in sc_tasks_in ?_
  intro cdv Ar outer s H E hr
  have h64 := hr.units
  have h65 := u65 hr
  have hu := hu_of hr
  unfold B_tasks_in
  exact ⟨[], _, (pd_seq (pd_if (pdt_in h65 (pd_ix (pd_v 0) pd_int) (pd_glob (by rfl) gm_GROUPS gr_GROUPS gd_GROUPS)) (pd_one1 (pd_ret (pd_ix (pd_v 0) pd_int))) pd_nil)
  (pd_seq (pd_if (pdt_eq h64 (pd_ix (pd_v 0) pd_int) pd_str) (pd_one1 (pd_ret (pd_tup pd_a0 cnt0))) pd_nil)
  (pd_one1 (pd_ret (pd_sl (pd_v 0) (pd_o pd_int) pd_o0)))))⟩
theorem st_size (T : Txt K mg A) {n : Nat} (ih0 : FnOk P w K mg base CX0 (1 + n) A.a_size A.d_size ["task"] (spP K (G_size n 0))) : FnOk P w K mg base CX0 (1 + (n + 1)) A.a_size A.d_size ["task"] (spP K (G_size (n + 1) 0)) := by
  refine fn_ok (k := 1 + n) T.F_size sc_size ?_
  intro cdv Ar outer s H E hr
  have h64 := hr.units
  have h65 := u65 hr
  have hu := hu_of hr
  unfold B_size
  exact ⟨[], _, (pd_one1 (pd_ret (pd_add pd_int (pd_sum rfl T.z_sum (pd_lc (te := (tCall (spP K (G_size n 0)) [] E0 (tCons (tVar 1) tNil))) (tt := tYes) (tgt := (gName 1)) [("part", 1)] rfl sc_size.nd (pi_s (pd_call (ok_tasks_in T) (hr.mono (by first | decide | omega)) T.m_tasks_in T.F_tasks_in.kp T.b_tasks_in (pd_a (pd_v 0) pd_a0))) (blkOk_by (N := ["task", "part"]) (sc := defScope s_size) (by decide +kernel)) (wok_n (by decide)) (fun _ _ _ _ _ => (pg_n 1 sc_size.nd)) (fun _ _ _ _ _ => pd_if0) (fun _ _ _ _ _ => (pd_call ih0 hr T.m_size T.F_size.kp T.b_size (pd_a (pd_v 1) pd_a0))))))))⟩
theorem all_size (T : Txt K mg A) : ∀ n : Nat, FnOk P w K mg base CX0 (1 + n) A.a_size A.d_size ["task"] (spP K (G_size n 0))
  | 0 => fn_none
  | n + 1 => by
    have ih := all_size T n
    exact st_size T ih
theorem ok_size (T : Txt K mg A) : FnOk P w K mg base CX0 25 A.a_size A.d_size ["task"] (spP K F_size) := all_size T fuel
theorem ok__law_cell_at (T : Txt K mg A) : FnOk P w K mg base CX0 1 A.a__law_cell_at A.d__law_cell_at ["script", "k"] (spP K F__law_cell_at) := by
  refine fn_ok (k := 0) T.F__law_cell_at sc__law_cell_at ?_
  intro cdv Ar outer s H E hr
  have h64 := hr.units
  have h65 := u65 hr
  have hu := hu_of hr
  unfold B__law_cell_at
  exact ⟨[], _, (pd_seq (pd_if (pdt_lt (pd_v 1) (pd_len T.z_len (pd_v 0))) (pd_one1 (pd_ret (pd_ix (pd_v 0) (pd_v 1)))) pd_nil)
  (pd_one1 (pd_ret pd_int)))⟩
theorem ok__law_mixed (T : Txt K mg A) : FnOk P w K mg base CX0 2 A.a__law_mixed A.d__law_mixed ["script", "k"] (spP K F__law_mixed) := by
  refine fn_ok (k := 1) T.F__law_mixed sc__law_mixed ?_
  intro cdv Ar outer s H E hr
  have h64 := hr.units
  have h65 := u65 hr
  have hu := hu_of hr
  unfold B__law_mixed
  exact ⟨[], _, (pd_seq (pd_set 2 sc__law_mixed.nd (pd_mod (pd_mul (pd_add (pd_add (pd_call (ok__law_cell_at T) (hr.mono (by first | decide | omega)) T.m__law_cell_at T.F__law_cell_at.kp T.b__law_cell_at (pd_a (pd_v 0) (pd_a (pd_v 1) pd_a0))) (pd_mul pd_int (pd_v 1))) pd_int) pd_int) pd_int))
  (pd_one1 (pd_ret (pd_mod (pd_add (pd_add (pd_mul (pd_v 2) (pd_v 2)) (pd_mul pd_int (pd_v 2))) (pd_v 1)) pd_int))))⟩
theorem ok__law_drawn (T : Txt K mg A) : FnOk P w K mg base CX0 1 A.a__law_drawn A.d__law_drawn ["number", "k"] (spP K F__law_drawn) := by
  refine fn_ok (k := 0) T.F__law_drawn sc__law_drawn ?_
  intro cdv Ar outer s H E hr
  have h64 := hr.units
  have h65 := u65 hr
  have hu := hu_of hr
  unfold B__law_drawn
  exact ⟨[], _, (pd_seq (pd_set 2 sc__law_drawn.nd (pd_mod (pd_mul (pd_add (pd_add (pd_v 0) (pd_mul pd_int (pd_v 1))) pd_int) pd_int) pd_int))
  (pd_one1 (pd_ret (pd_mod (pd_add (pd_add (pd_mul (pd_v 2) (pd_v 2)) (pd_mul pd_int (pd_v 2))) (pd_v 1)) pd_int))))⟩
theorem ok__law_any (T : Txt K mg A) : FnOk P w K mg base CX0 2 A.a__law_any A.d__law_any ["number", "most"] (spP K F__law_any) := by
  refine fn_ok (k := 1) T.F__law_any sc__law_any ?_
  intro cdv Ar outer s H E hr
  have h64 := hr.units
  have h65 := u65 hr
  have hu := hu_of hr
  unfold B__law_any
  exact ⟨[], _, (pd_seq (pd_set 2 sc__law_any.nd pd_str)
  (pd_one1 (pd_ret (pd_join pd_str (pd_lc (te := (tOp (rIx K) (tVar 2) (tOp (rI (fun _ j => 0 < j) fun i j => .int (i % j)) (tOp (rI CDiv fun i j => .int (i / j)) (tCall (spP K F__law_drawn) [] E0 (tCons (tVar 0) (tCons (tOp (rAddA K) (tC (.int 70)) (tVar 3)) tNil))) (tC (.int 4))) (tC (.int 26))))) (tt := tYes) (tgt := (gName 3)) [("k", 3)] rfl sc__law_any.nd (pi_r1 T.z_range (pd_a (pd_add pd_int (pd_mod (pd_v 0) (pd_v 1))) pd_a0)) (blkOk_by (N := ["number", "most", "signs", "k"]) (sc := defScope s__law_any) (by decide +kernel)) (wok_n (by decide)) (fun _ _ _ _ _ => (pg_n 3 sc__law_any.nd)) (fun _ _ _ _ _ => pd_if0) (fun _ _ _ _ _ => (pd_ix (pd_v 2) (pd_mod (pd_fdv (pd_call (ok__law_drawn T) (hr.mono (by first | decide | omega)) T.m__law_drawn T.F__law_drawn.kp T.b__law_drawn (pd_a (pd_v 0) (pd_a (pd_add pd_int (pd_v 3)) pd_a0))) pd_int) pd_int))))))))⟩
theorem st__law_swapped (T : Txt K mg A) {n : Nat} (ih0 : FnOk P w K mg base CX0 (0 + n) A.a__law_swapped A.d__law_swapped ["thing", "book"] (spP K (G__law_swapped n 0))) : FnOk P w K mg base CX0 (0 + (n + 1)) A.a__law_swapped A.d__law_swapped ["thing", "book"] (spP K (G__law_swapped (n + 1) 0)) := by
  refine fn_ok (k := 0 + n) T.F__law_swapped sc__law_swapped ?_
  intro cdv Ar outer s H E hr
  have h64 := hr.units
  have h65 := u65 hr
  have hu := hu_of hr
  unfold B__law_swapped
  exact ⟨[], _, (pd_seq (pd_if (pdt_v (pd_isi is_tup T.z_isinstance T.z_tuple (by decide +kernel) (pd_v 0))) (pd_one1 (pd_ret (pd_toTup T.z_tuple (pd_lc (te := (tCall (spP K (G__law_swapped n 0)) [] E0 (tCons (tVar 2) (tCons (tVar 1) tNil)))) (tt := tYes) (tgt := (gName 2)) [("part", 2)] rfl sc__law_swapped.nd (pi_s (pd_v 0)) (blkOk_by (N := ["thing", "book", "part"]) (sc := defScope s__law_swapped) (by decide +kernel)) (wok_n (by decide)) (fun _ _ _ _ _ => (pg_n 2 sc__law_swapped.nd)) (fun _ _ _ _ _ => pd_if0) (fun _ _ _ _ _ => (pd_call ih0 hr T.m__law_swapped T.F__law_swapped.kp T.b__law_swapped (pd_a (pd_v 2) (pd_a (pd_v 1) pd_a0)))))))) pd_nil)
  (pd_seq (pd_if (pdt_v (pd_isi is_str T.z_isinstance T.z_str (by decide +kernel) (pd_v 0))) (pd_one1 (pd_ret (pd_get hu (pd_v 1) (pd_v 0) (pd_v 0)))) pd_nil)
  (pd_one1 (pd_ret (pd_v 0)))))⟩
theorem all__law_swapped (T : Txt K mg A) : ∀ n : Nat, FnOk P w K mg base CX0 (0 + n) A.a__law_swapped A.d__law_swapped ["thing", "book"] (spP K (G__law_swapped n 0))
  | 0 => fn_none
  | n + 1 => by
    have ih := all__law_swapped T n
    exact st__law_swapped T ih
theorem ok__law_swapped (T : Txt K mg A) : FnOk P w K mg base CX0 24 A.a__law_swapped A.d__law_swapped ["thing", "book"] (spP K F__law_swapped) := all__law_swapped T fuel
theorem st__law_task (T : Txt K mg A) {n : Nat} (ih0 : FnOk P w K mg base CX0 (1 + n) A.a__law_task A.d__law_task ["number", "deep", "most"] (spP K (G__law_task n 0))) : FnOk P w K mg base CX0 (1 + (n + 1)) A.a__law_task A.d__law_task ["number", "deep", "most"] (spP K (G__law_task (n + 1) 0)) := by
  refine fn_ok (k := 1 + n) T.F__law_task sc__law_task ?_
  intro cdv Ar outer s H E hr
  have h64 := hr.units
  have h65 := u65 hr
  have hu := hu_of hr
  unfold B__law_task
  exact ⟨[], _, (pd_seq (pd_set 3 sc__law_task.nd (pd_ix pd_str (pd_mod (pd_fdv (pd_v 0) pd_int) pd_int)))
  (pd_seq (pd_set 4 sc__law_task.nd (pd_mod (pd_v 0) pd_int))
  (pd_seq (pd_if (pdt_w (pdw_or (pdt_eq h64 (pd_v 1) pd_int) (pdw_or1 (pdt_lt (pd_v 4) pd_int)))) (pd_one1 (pd_ret (pd_tup (pd_a pd_str (pd_a (pd_v 3) (pd_a (pd_add pd_int (pd_mod (pd_fdv (pd_v 0) pd_int) (pd_v 2))) pd_a0))) (cntS (cntS (cntS cnt0)))))) pd_nil)
  (pd_seq (pd_if (pdt_eq h64 (pd_v 4) pd_int) (pd_one1 (pd_ret (pd_tup (pd_a pd_str (pd_a (pd_v 3) (pd_a (pd_call ih0 hr T.m__law_task T.F__law_task.kp T.b__law_task (pd_a (pd_fdv (pd_call (ok__law_drawn T) (hr.mono (by first | decide | omega)) T.m__law_drawn T.F__law_drawn.kp T.b__law_drawn (pd_a (pd_v 0) (pd_a pd_int pd_a0))) pd_int) (pd_a (pd_sub (pd_v 1) pd_int) (pd_a (pd_v 2) pd_a0)))) pd_a0))) (cntS (cntS (cntS cnt0)))))) pd_nil)
  (pd_seq (pd_if (pdt_eq h64 (pd_v 4) pd_int) (pd_seq (pd_set 5 sc__law_task.nd (pd_add pd_int (pd_mod (pd_fdv (pd_v 0) pd_int) (pd_ix (pd_tup (pd_a pd_int (pd_a pd_int pd_a0)) (cntS (cntS cnt0))) (pd_mod (pd_fdv (pd_v 0) pd_int) pd_int)))))
  (pd_one1 (pd_ret (pd_tup (pd_a pd_str (pd_a (pd_v 5) (pd_a (pd_call ih0 hr T.m__law_task T.F__law_task.kp T.b__law_task (pd_a (pd_fdv (pd_call (ok__law_drawn T) (hr.mono (by first | decide | omega)) T.m__law_drawn T.F__law_drawn.kp T.b__law_drawn (pd_a (pd_v 0) (pd_a pd_int pd_a0))) pd_int) (pd_a (pd_sub (pd_v 1) pd_int) (pd_a (pd_v 2) pd_a0)))) pd_a0))) (cntS (cntS (cntS cnt0))))))) pd_nil)
  (pd_seq (pd_set 5 sc__law_task.nd (pd_add pd_int (pd_mod (pd_fdv (pd_v 0) pd_int) pd_int)))
  (pd_seq (pd_set 6 sc__law_task.nd (pd_ix (pd_tup (pd_a pd_str (pd_a pd_str (pd_a pd_str (pd_a pd_str pd_a0)))) (cntS (cntS (cntS (cntS cnt0))))) (pd_sub (pd_v 4) pd_int)))
  (pd_seq (pd_if (pdt_eq h64 (pd_v 6) pd_str) (pd_one1 (pd_set 5 sc__law_task.nd (pd_max2 rfl T.z_max (pd_a pd_int (pd_a (pd_v 5) pd_a0))))) pd_nil)
  (pd_one1 (pd_ret (pd_tup (pd_a (pd_v 6) (pd_a (pd_toTup T.z_tuple (pd_lc (te := (tCall (spP K (G__law_task n 0)) [] E0 (tCons (tOp (rI CDiv fun i j => .int (i / j)) (tCall (spP K F__law_drawn) [] E0 (tCons (tVar 0) (tCons (tOp (rAddA K) (tC (.int 3)) (tVar 7)) tNil))) (tC (.int 4))) (tCons (tOp (rI0 fun i j => .int (i - j)) (tVar 1) (tC (.int 1))) (tCons (tVar 2) tNil))))) (tt := tYes) (tgt := (gName 7)) [("k", 7)] rfl sc__law_task.nd (pi_r1 T.z_range (pd_a (pd_v 5) pd_a0)) (blkOk_by (N := ["number", "deep", "most", "deed", "kind", "many", "word", "k"]) (sc := defScope s__law_task) (by decide +kernel)) (wok_n (by decide)) (fun _ _ _ _ _ => (pg_n 7 sc__law_task.nd)) (fun _ _ _ _ _ => pd_if0) (fun _ _ _ _ _ => (pd_call ih0 hr T.m__law_task T.F__law_task.kp T.b__law_task (pd_a (pd_fdv (pd_call (ok__law_drawn T) (hr.mono (by first | decide | omega)) T.m__law_drawn T.F__law_drawn.kp T.b__law_drawn (pd_a (pd_v 0) (pd_a (pd_add pd_int (pd_v 7)) pd_a0))) pd_int) (pd_a (pd_sub (pd_v 1) pd_int) (pd_a (pd_v 2) pd_a0))))))) pd_a0)) (cntS (cntS cnt0)))))))))))))⟩
theorem all__law_task (T : Txt K mg A) : ∀ n : Nat, FnOk P w K mg base CX0 (1 + n) A.a__law_task A.d__law_task ["number", "deep", "most"] (spP K (G__law_task n 0))
  | 0 => fn_none
  | n + 1 => by
    have ih := all__law_task T n
    exact st__law_task T ih
theorem ok__law_task (T : Txt K mg A) : FnOk P w K mg base CX0 25 A.a__law_task A.d__law_task ["number", "deep", "most"] (spP K F__law_task) := all__law_task T fuel
theorem ok__law_deeds (T : Txt K mg A) : FnOk P w K mg base CX0 2 A.a__law_deeds A.d__law_deeds ["number", "most"] (spP K F__law_deeds) := by
  refine fn_ok (k := 1) T.F__law_deeds sc__law_deeds ?_
  intro cdv Ar outer s H E hr
  have h64 := hr.units
  have h65 := u65 hr
  have hu := hu_of hr
  unfold B__law_deeds
  exact ⟨[], _, (pd_one1 (pd_ret (pd_toTup T.z_tuple (pd_lc (te := (tOp (rIx K) (tC (.str "abcabcd")) (tOp (rI (fun _ j => 0 < j) fun i j => .int (i % j)) (tOp (rI CDiv fun i j => .int (i / j)) (tCall (spP K F__law_drawn) [] E0 (tCons (tVar 0) (tCons (tOp (rAddA K) (tC (.int 20)) (tVar 2)) tNil))) (tC (.int 4))) (tC (.int 7))))) (tt := tYes) (tgt := (gName 2)) [("k", 2)] rfl sc__law_deeds.nd (pi_r1 T.z_range (pd_a (pd_mod (pd_v 0) (pd_add (pd_v 1) pd_int)) pd_a0)) (blkOk_by (N := ["number", "most", "k"]) (sc := defScope s__law_deeds) (by decide +kernel)) (wok_n (by decide)) (fun _ _ _ _ _ => (pg_n 2 sc__law_deeds.nd)) (fun _ _ _ _ _ => pd_if0) (fun _ _ _ _ _ => (pd_ix pd_str (pd_mod (pd_fdv (pd_call (ok__law_drawn T) (hr.mono (by first | decide | omega)) T.m__law_drawn T.F__law_drawn.kp T.b__law_drawn (pd_a (pd_v 0) (pd_a (pd_add pd_int (pd_v 2)) pd_a0))) pd_int) pd_int)))))))⟩
theorem ok__law_is_name (T : Txt K mg A) : FnOk P w K mg base CX0 1 A.a__law_is_name A.d__law_is_name ["thing"] (spP K F__law_is_name) := by
  refine fn_ok (k := 0) T.F__law_is_name sc__law_is_name ?_
  intro cdv Ar outer s H E hr
  have h64 := hr.units
  have h65 := u65 hr
  have hu := hu_of hr
  unfold B__law_is_name
  exact ⟨[], _, (pd_seq (pd_if (pdt_w (pdw_or (pdt_not (pdt_v (pd_isi is_str T.z_isinstance T.z_str (by decide +kernel) (pd_v 0)))) (pdw_or1 (pdt_not (pdt_lele pd_int (pd_len T.z_len (pd_v 0)) pd_int))))) (pd_one1 (pd_ret pd_bl)) pd_nil)
  (pd_one1 (pd_ret (pd_eq h64 (pd_lc (te := (tVar 1)) (tt := (tNot (tTest (tChain rLeA rLeA (tC (.str "a")) (tVar 1) (tC (.str "z")))))) (tgt := (gName 1)) [("sign", 1)] rfl sc__law_is_name.nd (pi_t (pd_v 0)) (blkOk_by (N := ["thing", "sign"]) (sc := defScope s__law_is_name) (by decide +kernel)) (wok_n (by decide)) (fun _ _ _ _ _ => (pg_n 1 sc__law_is_name.nd)) (fun _ _ _ _ _ => (pd_if1 (pdt_not (pdt_lele pd_str (pd_v 1) pd_str)))) (fun _ _ _ _ _ => (pd_v 1))) (pd_lst pd_a0 cnt0)))))⟩
theorem ok__law_from (T : Txt K mg A) : FnOk P w K mg base CX0 1 A.a__law_from A.d__law_from ["thing", "low", "high"] (spP K F__law_from) := by
  refine fn_ok (k := 0) T.F__law_from sc__law_from ?_
  intro cdv Ar outer s H E hr
  have h64 := hr.units
  have h65 := u65 hr
  have hu := hu_of hr
  unfold B__law_from
  exact ⟨[], _, (pd_one1 (pd_ret (pd_and (pd_isi is_int T.z_isinstance T.z_int (by decide +kernel) (pd_v 0)) (pd_and (pd_not (pd_isi is_bool T.z_isinstance T.z_bool (by decide +kernel) (pd_v 0))) (pd_one (pd_lele (pd_v 1) (pd_v 0) (pd_v 2)))))))⟩
theorem st__law_is_task (T : Txt K mg A) {n : Nat} (ih0 : FnOk P w K mg base CX0 (1 + n) A.a__law_is_task A.d__law_is_task ["thing", "deep"] (spP K (G__law_is_task n 0))) : FnOk P w K mg base CX0 (1 + (n + 1)) A.a__law_is_task A.d__law_is_task ["thing", "deep"] (spP K (G__law_is_task (n + 1) 0)) := by
  refine fn_ok (k := 1 + n) T.F__law_is_task sc__law_is_task ?_
  intro cdv Ar outer s H E hr
  have h64 := hr.units
  have h65 := u65 hr
  have hu := hu_of hr
  unfold B__law_is_task
  exact ⟨[], _, (pd_seq (pd_if (pdt_w (pdw_or (pdt_eq h64 (pd_v 1) pd_int) (pdw_or (pdt_not (pdt_v (pd_isi is_tup T.z_isinstance T.z_tuple (by decide +kernel) (pd_v 0)))) (pdw_or (pdt_eq h64 (pd_v 0) (pd_tup pd_a0 cnt0)) (pdw_or1 (pdt_not (pdt_v (pd_isi is_str T.z_isinstance T.z_str (by decide +kernel) (pd_ix (pd_v 0) pd_int))))))))) (pd_one1 (pd_ret pd_bl)) pd_nil)
  (pd_seq (pd_if (pdt_ne h64 (pd_len T.z_len (pd_v 0)) (pd_get hu (pd_dict (ks := ["do", "without", "within", "all", "any", "then"]) (pd_p pd_int (pd_p pd_int (pd_p pd_int (pd_p pd_int (pd_p pd_int (pd_p pd_int pd_p0)))))) (by decide +kernel)) (pd_ix (pd_v 0) pd_int) pd_int)) (pd_one1 (pd_ret pd_bl)) pd_nil)
  (pd_seq (pd_if (pdt_eq h64 (pd_ix (pd_v 0) pd_int) pd_str) (pd_one1 (pd_ret (pd_and (pd_call (ok__law_is_name T) (hr.mono (by first | decide | omega)) T.m__law_is_name T.F__law_is_name.kp T.b__law_is_name (pd_a (pd_ix (pd_v 0) pd_int) pd_a0)) (pd_one (pd_call (ok__law_from T) (hr.mono (by first | decide | omega)) T.m__law_from T.F__law_from.kp T.b__law_from (pd_a (pd_ix (pd_v 0) pd_int) (pd_a pd_int (pd_a pd_int pd_a0)))))))) pd_nil)
  (pd_seq (pd_if (pdt_eq h64 (pd_ix (pd_v 0) pd_int) pd_str) (pd_one1 (pd_ret (pd_and (pd_call (ok__law_is_name T) (hr.mono (by first | decide | omega)) T.m__law_is_name T.F__law_is_name.kp T.b__law_is_name (pd_a (pd_ix (pd_v 0) pd_int) pd_a0)) (pd_one (pd_call ih0 hr T.m__law_is_task T.F__law_is_task.kp T.b__law_is_task (pd_a (pd_ix (pd_v 0) pd_int) (pd_a (pd_sub (pd_v 1) pd_int) pd_a0))))))) pd_nil)
  (pd_seq (pd_if (pdt_eq h64 (pd_ix (pd_v 0) pd_int) pd_str) (pd_one1 (pd_ret (pd_and (pd_call (ok__law_from T) (hr.mono (by first | decide | omega)) T.m__law_from T.F__law_from.kp T.b__law_from (pd_a (pd_ix (pd_v 0) pd_int) (pd_a pd_int (pd_a pd_int pd_a0)))) (pd_one (pd_call ih0 hr T.m__law_is_task T.F__law_is_task.kp T.b__law_is_task (pd_a (pd_ix (pd_v 0) pd_int) (pd_a (pd_sub (pd_v 1) pd_int) pd_a0))))))) pd_nil)
  (pd_seq (pd_if (pdt_w (pdw_or (pdt_not (pdt_v (pd_isi is_tup T.z_isinstance T.z_tuple (by decide +kernel) (pd_ix (pd_v 0) pd_int)))) (pdw_or1 (pdt_not (pdt_lele (pd_add pd_int (pd_toInt T.z_int (pd_eq h64 (pd_ix (pd_v 0) pd_int) pd_str))) (pd_len T.z_len (pd_ix (pd_v 0) pd_int)) pd_int))))) (pd_one1 (pd_ret pd_bl)) pd_nil)
  (pd_one1 (pd_ret (pd_eq h64 (pd_lc (te := (tVar 2)) (tt := (tNot (tB (tCall (spP K (G__law_is_task n 0)) [] E0 (tCons (tVar 2) (tCons (tOp (rI0 fun i j => .int (i - j)) (tVar 1) (tC (.int 1))) tNil)))))) (tgt := (gName 2)) [("part", 2)] rfl sc__law_is_task.nd (pi_s (pd_ix (pd_v 0) pd_int)) (blkOk_by (N := ["thing", "deep", "part"]) (sc := defScope s__law_is_task) (by decide +kernel)) (wok_n (by decide)) (fun _ _ _ _ _ => (pg_n 2 sc__law_is_task.nd)) (fun _ _ _ _ _ => (pd_if1 (pdt_not (pdt_v (pd_call ih0 hr T.m__law_is_task T.F__law_is_task.kp T.b__law_is_task (pd_a (pd_v 2) (pd_a (pd_sub (pd_v 1) pd_int) pd_a0))))))) (fun _ _ _ _ _ => (pd_v 2))) (pd_lst pd_a0 cnt0))))))))))⟩
theorem all__law_is_task (T : Txt K mg A) : ∀ n : Nat, FnOk P w K mg base CX0 (1 + n) A.a__law_is_task A.d__law_is_task ["thing", "deep"] (spP K (G__law_is_task n 0))
  | 0 => fn_none
  | n + 1 => by
    have ih := all__law_is_task T n
    exact st__law_is_task T ih
theorem ok__law_is_task (T : Txt K mg A) : FnOk P w K mg base CX0 25 A.a__law_is_task A.d__law_is_task ["thing", "deep"] (spP K F__law_is_task) := all__law_is_task T fuel
theorem st__law_size (T : Txt K mg A) {n : Nat} (ih0 : FnOk P w K mg base CX0 (0 + n) A.a__law_size A.d__law_size ["task"] (spP K (G__law_size n 0))) : FnOk P w K mg base CX0 (0 + (n + 1)) A.a__law_size A.d__law_size ["task"] (spP K (G__law_size (n + 1) 0)) := by
  refine fn_ok (k := 0 + n) T.F__law_size sc__law_size ?_
  intro cdv Ar outer s H E hr
  have h64 := hr.units
  have h65 := u65 hr
  have hu := hu_of hr
  unfold B__law_size
  exact ⟨[], _, (pd_seq (pd_if (pdt_eq h64 (pd_ix (pd_v 0) pd_int) pd_str) (pd_one1 (pd_ret pd_int)) pd_nil)
  (pd_seq (pd_if (pdt_in h65 (pd_ix (pd_v 0) pd_int) (pd_tup (pd_a pd_str (pd_a pd_str pd_a0)) (cntS (cntS cnt0)))) (pd_one1 (pd_ret (pd_add pd_int (pd_call ih0 hr T.m__law_size T.F__law_size.kp T.b__law_size (pd_a (pd_ix (pd_v 0) pd_int) pd_a0))))) pd_nil)
  (pd_one1 (pd_ret (pd_add pd_int (pd_sum rfl T.z_sum (pd_lc (te := (tCall (spP K (G__law_size n 0)) [] E0 (tCons (tVar 1) tNil))) (tt := tYes) (tgt := (gName 1)) [("part", 1)] rfl sc__law_size.nd (pi_s (pd_ix (pd_v 0) pd_int)) (blkOk_by (N := ["task", "part"]) (sc := defScope s__law_size) (by decide +kernel)) (wok_n (by decide)) (fun _ _ _ _ _ => (pg_n 1 sc__law_size.nd)) (fun _ _ _ _ _ => pd_if0) (fun _ _ _ _ _ => (pd_call ih0 hr T.m__law_size T.F__law_size.kp T.b__law_size (pd_a (pd_v 1) pd_a0))))))))))⟩
theorem all__law_size (T : Txt K mg A) : ∀ n : Nat, FnOk P w K mg base CX0 (0 + n) A.a__law_size A.d__law_size ["task"] (spP K (G__law_size n 0))
  | 0 => fn_none
  | n + 1 => by
    have ih := all__law_size T n
    exact st__law_size T ih
theorem ok__law_size (T : Txt K mg A) : FnOk P w K mg base CX0 24 A.a__law_size A.d__law_size ["task"] (spP K F__law_size) := all__law_size T fuel
theorem st__law_spoilt (T : Txt K mg A) {n : Nat} (ih0 : FnOk P w K mg base CX0 (1 + n) A.a__law_spoilt A.d__law_spoilt ["thing", "number", "deep"] (spP K (G__law_spoilt n 0))) : FnOk P w K mg base CX0 (1 + (n + 1)) A.a__law_spoilt A.d__law_spoilt ["thing", "number", "deep"] (spP K (G__law_spoilt (n + 1) 0)) := by
  refine fn_ok (k := 1 + n) T.F__law_spoilt sc__law_spoilt ?_
  intro cdv Ar outer s H E hr
  have h64 := hr.units
  have h65 := u65 hr
  have hu := hu_of hr
  unfold B__law_spoilt
  exact ⟨[], _, (pd_seq (pd_if (pdt_w (pdw_and (pdt_gt (pd_v 2) pd_int) (pdw_and (pdt_v (pd_isi is_tup T.z_isinstance T.z_tuple (by decide +kernel) (pd_v 0))) (pdw_and (pdt_gt (pd_len T.z_len (pd_v 0)) pd_int) (pdw_and1 (pdt_gt (pd_mod (pd_v 1) pd_int) pd_int)))))) (pd_seq (pd_set 3 sc__law_spoilt.nd (pd_mod (pd_fdv (pd_v 1) pd_int) (pd_len T.z_len (pd_v 0))))
  (pd_seq (pd_set 4 sc__law_spoilt.nd (pd_call ih0 hr T.m__law_spoilt T.F__law_spoilt.kp T.b__law_spoilt (pd_a (pd_ix (pd_v 0) (pd_v 3)) (pd_a (pd_fdv (pd_call (ok__law_drawn T) (hr.mono (by first | decide | omega)) T.m__law_drawn T.F__law_drawn.kp T.b__law_drawn (pd_a (pd_v 1) (pd_a (pd_v 2) pd_a0))) pd_int) (pd_a (pd_sub (pd_v 2) pd_int) pd_a0)))))
  (pd_one1 (pd_ret (pd_add (pd_add (pd_sl (pd_v 0) pd_o0 (pd_o (pd_v 3))) (pd_tup (pd_a (pd_v 4) pd_a0) (cntS cnt0))) (pd_sl (pd_v 0) (pd_o (pd_add (pd_v 3) pd_int)) pd_o0)))))) pd_nil)
  (pd_seq (pd_if (pdt_w (pdw_and (pdt_v (pd_isi is_tup T.z_isinstance T.z_tuple (by decide +kernel) (pd_v 0))) (pdw_and (pdt_gt (pd_len T.z_len (pd_v 0)) pd_int) (pdw_and1 (pdt_eq h64 (pd_mod (pd_fdv (pd_v 1) pd_int) pd_int) pd_int))))) (pd_one1 (pd_ret (pd_ix (pd_lst (pd_a (pd_toLst T.z_list (pd_v 0)) (pd_a (pd_sl (pd_v 0) pd_o0 (pd_o (pd_neg pd_int))) (pd_a (pd_add (pd_v 0) (pd_sl (pd_v 0) (pd_o (pd_neg pd_int)) pd_o0)) (pd_a (pd_sl (pd_v 0) (pd_o pd_int) pd_o0) (pd_a (pd_rev (pd_v 0)) (pd_a (pd_mul (pd_v 0) pd_int) pd_a0)))))) (cntS (cntS (cntS (cntS (cntS (cntS cnt0))))))) (pd_mod (pd_fdv (pd_v 1) pd_int) pd_int)))) pd_nil)
  (pd_seq (pd_if (pdt_w (pdw_and (pdt_v (pd_isi is_int T.z_isinstance T.z_int (by decide +kernel) (pd_v 0))) (pdw_and1 (pdt_eq h64 (pd_mod (pd_fdv (pd_v 1) pd_int) pd_int) pd_int)))) (pd_one1 (pd_ret (pd_ix (pd_lst (pd_a (pd_toStr T.z_str (pd_v 0)) (pd_a (pd_sub pd_int (pd_v 0)) (pd_a (pd_add (pd_v 0) pd_int) (pd_a (pd_eq h64 (pd_v 0) pd_int) (pd_a (pd_add (pd_v 0) pd_int) (pd_a pd_int pd_a0)))))) (cntS (cntS (cntS (cntS (cntS (cntS cnt0))))))) (pd_mod (pd_fdv (pd_v 1) pd_int) pd_int)))) pd_nil)
  (pd_seq (pd_set 5 sc__law_spoilt.nd (pd_lst (pd_a pd_non (pd_a pd_bl (pd_a pd_int (pd_a pd_int (pd_a pd_int (pd_a pd_int (pd_a pd_int (pd_a pd_str (pd_a pd_str (pd_a pd_str (pd_a pd_str (pd_a pd_str (pd_a pd_str (pd_a pd_str (pd_a (pd_tup pd_a0 cnt0) (pd_a (pd_tup (pd_a pd_str (pd_a pd_str (pd_a pd_int pd_a0))) (cntS (cntS (cntS cnt0)))) (pd_a (pd_lst pd_a0 cnt0) pd_a0))))))))))))))))) (cntS (cntS (cntS (cntS (cntS (cntS (cntS (cntS (cntS (cntS (cntS (cntS (cntS (cntS (cntS (cntS (cntS cnt0)))))))))))))))))))
  (pd_seq (pd_set 5 sc__law_spoilt.nd (pd_add (pd_v 5) (pd_lst (pd_a (pd_tup (pd_a pd_str (pd_a pd_str (pd_a pd_int pd_a0))) (cntS (cntS (cntS cnt0)))) (pd_a (pd_tup (pd_a pd_str (pd_a pd_int (pd_a (pd_tup (pd_a pd_str (pd_a pd_str (pd_a pd_int pd_a0))) (cntS (cntS (cntS cnt0)))) pd_a0))) (cntS (cntS (cntS cnt0)))) (pd_a (pd_tup (pd_a pd_str (pd_a (pd_tup (pd_a (pd_tup (pd_a pd_str (pd_a pd_str (pd_a pd_int pd_a0))) (cntS (cntS (cntS cnt0)))) pd_a0) (cntS cnt0)) pd_a0)) (cntS (cntS cnt0))) (pd_a pd_str pd_a0)))) (cntS (cntS (cntS (cntS cnt0)))))))
  (pd_one1 (pd_ret (pd_ix (pd_v 5) (pd_mod (pd_fdv (pd_v 1) pd_int) pd_int)))))))))⟩
theorem all__law_spoilt (T : Txt K mg A) : ∀ n : Nat, FnOk P w K mg base CX0 (1 + n) A.a__law_spoilt A.d__law_spoilt ["thing", "number", "deep"] (spP K (G__law_spoilt n 0))
  | 0 => fn_none
  | n + 1 => by
    have ih := all__law_spoilt T n
    exact st__law_spoilt T ih
theorem ok__law_spoilt (T : Txt K mg A) : FnOk P w K mg base CX0 25 A.a__law_spoilt A.d__law_spoilt ["thing", "number", "deep"] (spP K F__law_spoilt) := all__law_spoilt T fuel
theorem ok_law (T : Txt K mg A) : FnOk P w K mg base CX0 27 A.a_law A.d_law ["script"] (spP K F_law) := by
  refine fn_ok (k := 26) T.F_law sc_law ?_
  intro cdv Ar outer s H E hr
  have h64 := hr.units
  have h65 := u65 hr
  have hu := hu_of hr
  unfold B_law
  exact ⟨[], _, (pd_seq (pd_set 1 sc_law.nd (pd_call (ok__law_mixed T) (hr.mono (by first | decide | omega)) T.m__law_mixed T.F__law_mixed.kp T.b__law_mixed (pd_a (pd_v 0) (pd_a pd_int pd_a0))))
  (pd_seq (pd_set 2 sc_law.nd (pd_call (ok__law_task T) (hr.mono (by first | decide | omega)) T.m__law_task T.F__law_task.kp T.b__law_task (pd_a (pd_call (ok__law_mixed T) (hr.mono (by first | decide | omega)) T.m__law_mixed T.F__law_mixed.kp T.b__law_mixed (pd_a (pd_v 0) (pd_a pd_int pd_a0))) (pd_a (pd_add pd_int (pd_mod (pd_fdv (pd_v 1) pd_int) pd_int)) (pd_a pd_int pd_a0)))))
  (pd_seq (pd_set 2 sc_law.nd (pd_call (ok__law_swapped T) (hr.mono (by first | decide | omega)) T.m__law_swapped T.F__law_swapped.kp T.b__law_swapped (pd_a (pd_v 2) (pd_a (pd_dict (ks := ["b"]) (pd_p (pd_call (ok__law_any T) (hr.mono (by first | decide | omega)) T.m__law_any T.F__law_any.kp T.b__law_any (pd_a (pd_call (ok__law_mixed T) (hr.mono (by first | decide | omega)) T.m__law_mixed T.F__law_mixed.kp T.b__law_mixed (pd_a (pd_v 0) (pd_a pd_int pd_a0))) (pd_a pd_int pd_a0))) pd_p0) (by decide +kernel)) pd_a0))))
  (pd_seq (pd_if (pdt_gt (pd_mod (pd_v 1) pd_int) pd_int) (pd_one1 (pd_set 2 sc_law.nd (pd_call (ok__law_spoilt T) (hr.mono (by first | decide | omega)) T.m__law_spoilt T.F__law_spoilt.kp T.b__law_spoilt (pd_a (pd_v 2) (pd_a (pd_call (ok__law_mixed T) (hr.mono (by first | decide | omega)) T.m__law_mixed T.F__law_mixed.kp T.b__law_mixed (pd_a (pd_v 0) (pd_a pd_int pd_a0))) (pd_a (pd_mod (pd_fdv (pd_v 1) pd_int) pd_int) pd_a0)))))) pd_nil)
  (pd_seq (pd_set 3 sc_law.nd (pd_call (ok__law_mixed T) (hr.mono (by first | decide | omega)) T.m__law_mixed T.F__law_mixed.kp T.b__law_mixed (pd_a (pd_v 0) (pd_a pd_int pd_a0))))
  (pd_seq (pd_set 4 sc_law.nd (pd_tup (pd_a pd_str (pd_a (pd_sl pd_str pd_o0 (pd_o (pd_add pd_int (pd_mod (pd_v 3) pd_int)))) (pd_a (pd_add pd_int (pd_mod (pd_fdv (pd_v 3) pd_int) pd_int)) pd_a0))) (cntS (cntS (cntS cnt0)))))
  (pd_seq (pd_set 5 sc_law.nd (pd_tup (pd_a pd_str (pd_a pd_str (pd_a pd_int pd_a0))) (cntS (cntS (cntS cnt0)))))
  (pd_seq (pd_setOwn 6 3 sc_law.nd (pd_a (pd_v 4) (pd_a (pd_tup (pd_a pd_str (pd_a (pd_add pd_int (pd_mod (pd_fdv (pd_v 3) pd_int) pd_int)) (pd_a (pd_v 5) pd_a0))) (cntS (cntS (cntS cnt0)))) (pd_a (pd_tup (pd_a pd_str (pd_a (pd_sl pd_str pd_o0 (pd_o (pd_add pd_int (pd_mod (pd_v 3) pd_int)))) (pd_a (pd_v 5) pd_a0))) (cntS (cntS (cntS cnt0)))) pd_a0))) (cntS (cntS (cntS cnt0))))
  (pd_seq (pd_for PassesOwn.never rfl (pi_s (pd_tup (pd_a pd_str (pd_a pd_str (pd_a pd_str pd_a0))) (cntS (cntS (cntS cnt0))))) (pg_n 7 sc_law.nd) (pd_one1 (pd_append 6 (pd_tup (pd_a (pd_v 7) (pd_a (pd_mul (pd_tup (pd_a (pd_v 5) pd_a0) (cntS cnt0)) (pd_add pd_int (pd_mod (pd_fdv (pd_v 3) pd_int) pd_int))) pd_a0)) (cntS (cntS cnt0))))))
  (pd_seq (pd_set 8 sc_law.nd (pd_lst (pd_a (pd_tup pd_a0 cnt0) (pd_a (pd_lst pd_a0 cnt0) (pd_a pd_int (pd_a pd_non (pd_a pd_str (pd_a (pd_lst (pd_a pd_str (pd_a pd_str (pd_a pd_int pd_a0))) (cntS (cntS (cntS cnt0)))) (pd_a (pd_tup (pd_a pd_str pd_a0) (cntS cnt0)) (pd_a (pd_tup (pd_a pd_str (pd_a (pd_lst (pd_a (pd_v 5) pd_a0) (cntS cnt0)) pd_a0)) (cntS (cntS cnt0))) (pd_a (pd_tup (pd_a pd_str (pd_a (pd_tup (pd_a pd_int pd_a0) (cntS cnt0)) pd_a0)) (cntS (cntS cnt0))) (pd_a (pd_tup (pd_a pd_str (pd_a pd_str (pd_a pd_bl pd_a0))) (cntS (cntS (cntS cnt0)))) pd_a0)))))))))) (cntS (cntS (cntS (cntS (cntS (cntS (cntS (cntS (cntS (cntS cnt0))))))))))))
  (pd_seq (pd_set 8 sc_law.nd (pd_add (pd_v 8) (pd_lst (pd_a (pd_tup (pd_a pd_str (pd_a pd_bl (pd_a (pd_v 5) pd_a0))) (cntS (cntS (cntS cnt0)))) (pd_a (pd_tup (pd_a pd_str (pd_a pd_int (pd_a (pd_v 5) pd_a0))) (cntS (cntS (cntS cnt0)))) (pd_a (pd_tup (pd_a pd_str (pd_a (pd_tup (pd_a (pd_tup pd_a0 cnt0) pd_a0) (cntS cnt0)) pd_a0)) (cntS (cntS cnt0))) (pd_a (pd_tup (pd_a pd_str (pd_a pd_int (pd_a (pd_lst pd_a0 cnt0) pd_a0))) (cntS (cntS (cntS cnt0)))) pd_a0)))) (cntS (cntS (cntS (cntS cnt0)))))))
  (pd_seq (pd_append 6 (pd_ix (pd_v 8) (pd_mod (pd_fdv (pd_v 3) pd_int) pd_int)))
  (pdb_pre 6 (pd_seq (pd_for PassesOwn.never rfl (pi_s (pd_v 6)) (pg_n 9 sc_law.nd) (pd_one1 (pd_if (pdt_ne h64 (pd_call (ok_is_task T) (hr.mono (by first | decide | omega)) T.m_is_task T.F_is_task.kp T.b_is_task (pd_a (pd_v 9) pd_a0)) (pd_call (ok__law_is_task T) (hr.mono (by first | decide | omega)) T.m__law_is_task T.F__law_is_task.kp T.b__law_is_task (pd_a (pd_v 9) (pd_a pd_int pd_a0)))) (pd_one1 (pd_ret pd_bl)) pd_nil)))
  (pd_seq (pd_set 10 sc_law.nd (pd_call (ok__law_is_task T) (hr.mono (by first | decide | omega)) T.m__law_is_task T.F__law_is_task.kp T.b__law_is_task (pd_a (pd_v 2) (pd_a pd_int pd_a0))))
  (pd_seq (pd_set 11 sc_law.nd (pd_call (ok_is_task T) (hr.mono (by first | decide | omega)) T.m_is_task T.F_is_task.kp T.b_is_task (pd_a (pd_v 2) pd_a0)))
  (pd_seq (pd_if (pdt_w (pdw_or (pdt_not (pdt_v (pd_isi is_bool T.z_isinstance T.z_bool (by decide +kernel) (pd_v 11)))) (pdw_or1 (pdt_ne h64 (pd_v 11) (pd_v 10))))) (pd_one1 (pd_ret pd_bl)) pd_nil)
  (pd_one1 (pd_ret (pd_or (pd_not (pd_v 10)) (pd_one (pd_eq h64 (pd_call (ok_size T) (hr.mono (by first | decide | omega)) T.m_size T.F_size.kp T.b_size (pd_a (pd_v 2) pd_a0)) (pd_call (ok__law_size T) (hr.mono (by first | decide | omega)) T.m__law_size T.F__law_size.kp T.b__law_size (pd_a (pd_v 2) pd_a0))))))))))))))))))))))))⟩
end
end Lk01

namespace Lk01
open PySem L2 Tl Tk
theorem lt1 (a b : Nat) : decide (([a] : List Nat) < [b]) = decide (a < b) := by
  by_cases h : a < b
  · rw [decide_eq_true h]
    exact decide_eq_true (List.Lex.rel h)
  · rw [decide_eq_false h]
    refine decide_eq_false fun z => ?_
    cases z with
    | rel h1 => exact h h1
    | cons h1 => cases h1
theorem ge_a (c : Nat) : leD (.str "a") (.str ⟨#[c]⟩) = some (.bool (decide (97 ≤ c))) := by
  have e : leD (.str "a") (.str ⟨#[c]⟩) = some (.bool (!decide (([c] : List Nat) < [97]))) := rfl
  rw [e, lt1]
  by_cases h : c < 97
  · rw [decide_eq_true h, decide_eq_false (by omega)]; rfl
  · rw [decide_eq_false h, decide_eq_true (by omega)]; rfl
theorem le_z (c : Nat) : leD (.str ⟨#[c]⟩) (.str "z") = some (.bool (decide (c ≤ 122))) := by
  have e : leD (.str ⟨#[c]⟩) (.str "z") = some (.bool (!decide (([122] : List Nat) < [c]))) := rfl
  rw [e, lt1]
  by_cases h : 122 < c
  · rw [decide_eq_true h, decide_eq_false (by omega)]; rfl
  · rw [decide_eq_false h, decide_eq_true (by omega)]; rfl
theorem fil_all {α : Type} (p : α → Bool) : ∀ l : List α, (l.filter fun a => !p a).isEmpty = l.all p
  | [] => rfl
  | a :: l => by
    have ih := fil_all p l
    cases h : p a with
    | true => rw [List.filter_cons_of_neg (by simp [h]), ih]; simp [h]
    | false => rw [List.filter_cons_of_pos (by simp [h])]; simp [h]
theorem eq_nil_l {l : List PyData} (h : SeqAt.shaped (.list l) = true) : eqP (.list l) (.list []) = some (.bool l.isEmpty) := by
  rw [eqP_of h (by decide +kernel)]
  cases l <;> simp [PyData.eqv, PyData.eqvAll]
theorem ok_one {s : Str} (h : PyData.canLay0 (.str s) = true) {c : Nat} (hc : c ∈ s.cps.toList) : PyData.canLay0 (.str ⟨#[c]⟩) = true := by
  simp only [PyData.canLay0, PyData.strOk] at h ⊢
  have := Array.all_eq_true'.mp h c (by simpa using hc)
  simpa using this
theorem F_lname {k : Nat} {d : PyData} (h : gd k d) : F__law_is_name [d] = some (.bool (isNm d)) := by
  match k, h with
  | k + 1, h =>
    unfold F__law_is_name B__law_is_name
    cases d with
    | str s =>
      have hs := h.2
      have cm : ∀ a : Option PyData, compL (gN 1) (fNot (fB (fLele (fC (.str "a")) (fV 1) (fC (.str "z"))))) (fV 1) [a, none] (s.cps.toList.map fun c => PyData.str ⟨#[c]⟩) = some ((s.cps.toList.filter fun c => !inAZ c).map fun c => PyData.str ⟨#[c]⟩) := by
        intro a
        rw [compL_gen (e := fun c => PyData.str ⟨#[c]⟩) (p := fun c => !inAZ c) (h := fun c => PyData.str ⟨#[c]⟩)]
        · intro c _
          simp only [runB, fSeq, fIf, fRet, fAsg, fB, f1, f2, fA, fA0, fL, fV, fC, fTup, fLst, fNext, on1, on2, gN, gT, gsC, gs0, asB, fAnd, fOr, fBnd, fBor, fNot, fVB, fIte, fAndV, fOrV, notD, negD, fO, fO0, asI, fSl, fPar, List.map_cons, List.map_nil, List.length_cons, List.length_nil, List.reduceReplicate, List.cons_append, List.nil_append, List.append_nil, List.getElem?_cons_zero, List.getElem?_cons_succ, Option.join_some, Option.join_none, List.set_cons_zero, List.set_cons_succ, Option.bind_some, Option.bind_none, Option.map_some, Option.map_none, Nat.reduceSub, Nat.reduceAdd, Nat.reduceEqDiff, if_true, if_false, Bool.false_eq_true, reduceIte, Nat.zero_add, fComp, fItems, itemsOf, extOf, wipeE, fEnum, fRng1, fRng2, fSigns, lenD, tupD, lstD, ix0, ix1, ix2, eq_s, ne_s, eq_i, ne_i, add_i, sub_i, in_t2, in_t3, List.length_map, fLele, ge_a, le_z, inAZ]
          cases decide (97 ≤ c) <;> rfl
        · intro c _ _
          simp only [runB, fSeq, fIf, fRet, fAsg, fB, f1, f2, fA, fA0, fL, fV, fC, fTup, fLst, fNext, on1, on2, gN, gT, gsC, gs0, asB, fAnd, fOr, fBnd, fBor, fNot, fVB, fIte, fAndV, fOrV, notD, negD, fO, fO0, asI, fSl, fPar, List.map_cons, List.map_nil, List.length_cons, List.length_nil, List.reduceReplicate, List.cons_append, List.nil_append, List.append_nil, List.getElem?_cons_zero, List.getElem?_cons_succ, Option.join_some, Option.join_none, List.set_cons_zero, List.set_cons_succ, Option.bind_some, Option.bind_none, Option.map_some, Option.map_none, Nat.reduceSub, Nat.reduceAdd, Nat.reduceEqDiff, if_true, if_false, Bool.false_eq_true, reduceIte, Nat.zero_add, fComp, fItems, itemsOf, extOf, wipeE, fEnum, fRng1, fRng2, fSigns, lenD, tupD, lstD, ix0, ix1, ix2, eq_s, ne_s, eq_i, ne_i, add_i, sub_i, in_t2, in_t3, List.length_map]
      have shp : SeqAt.shaped (.list ((s.cps.toList.filter fun c => !inAZ c).map fun c => PyData.str ⟨#[c]⟩)) = true := row_shaped _ 5 (by decide) _ fun c hc => ⟨ok_one h.1 (List.mem_filter.mp hc).1, by simp [PyData.depth]⟩
      have hq := eq_nil_l shp
      rw [List.isEmpty_map, fil_all] at hq
      have hl : s.length ≤ sizeLine := len_s.line_th hs
      simp only [runB, fSeq, fIf, fRet, fAsg, fB, f1, f2, fA, fA0, fL, fV, fC, fTup, fLst, fNext, on1, on2, gN, gT, gsC, gs0, asB, fAnd, fOr, fBnd, fBor, fNot, fVB, fIte, fAndV, fOrV, notD, negD, fO, fO0, asI, fSl, fPar, List.map_cons, List.map_nil, List.length_cons, List.length_nil, List.reduceReplicate, List.cons_append, List.nil_append, List.append_nil, List.getElem?_cons_zero, List.getElem?_cons_succ, Option.join_some, Option.join_none, List.set_cons_zero, List.set_cons_succ, Option.bind_some, Option.bind_none, Option.map_some, Option.map_none, Nat.reduceSub, Nat.reduceAdd, Nat.reduceEqDiff, if_true, if_false, Bool.false_eq_true, reduceIte, Nat.zero_add, fComp, fItems, itemsOf, extOf, wipeE, fEnum, fRng1, fRng2, fSigns, lenD, tupD, lstD, ix0, ix1, ix2, eq_s, ne_s, eq_i, ne_i, add_i, sub_i, in_t2, in_t3, List.length_map, isStrD, Bool.not_true, fLele, hl, le_s1, signs_s hs, cm, isNm]
      by_cases h1 : 1 ≤ s.length
      · rw [decide_eq_true (by omega : (1 : Int) ≤ (s.length : Int)), decide_eq_true h1]
        by_cases h5 : s.length ≤ 5
        · rw [decide_eq_true (by omega : (s.length : Int) ≤ 5), decide_eq_true h5]
          simp only [runB, fSeq, fIf, fRet, fAsg, fB, f1, f2, fA, fA0, fL, fV, fC, fTup, fLst, fNext, on1, on2, gN, gT, gsC, gs0, asB, fAnd, fOr, fBnd, fBor, fNot, fVB, fIte, fAndV, fOrV, notD, negD, fO, fO0, asI, fSl, fPar, List.map_cons, List.map_nil, List.length_cons, List.length_nil, List.reduceReplicate, List.cons_append, List.nil_append, List.append_nil, List.getElem?_cons_zero, List.getElem?_cons_succ, Option.join_some, Option.join_none, List.set_cons_zero, List.set_cons_succ, Option.bind_some, Option.bind_none, Option.map_some, Option.map_none, Nat.reduceSub, Nat.reduceAdd, Nat.reduceEqDiff, if_true, if_false, Bool.false_eq_true, reduceIte, Nat.zero_add, fComp, fItems, itemsOf, extOf, wipeE, fEnum, fRng1, fRng2, fSigns, lenD, tupD, lstD, ix0, ix1, ix2, eq_s, ne_s, eq_i, ne_i, add_i, sub_i, in_t2, in_t3, List.length_map, Bool.not_true, signs_s hs, cm, hq, Bool.true_and]
        · rw [decide_eq_false (by omega : ¬ (s.length : Int) ≤ 5), decide_eq_false h5]
          simp only [runB, fSeq, fIf, fRet, fAsg, fB, f1, f2, fA, fA0, fL, fV, fC, fTup, fLst, fNext, on1, on2, gN, gT, gsC, gs0, asB, fAnd, fOr, fBnd, fBor, fNot, fVB, fIte, fAndV, fOrV, notD, negD, fO, fO0, asI, fSl, fPar, List.map_cons, List.map_nil, List.length_cons, List.length_nil, List.reduceReplicate, List.cons_append, List.nil_append, List.append_nil, List.getElem?_cons_zero, List.getElem?_cons_succ, Option.join_some, Option.join_none, List.set_cons_zero, List.set_cons_succ, Option.bind_some, Option.bind_none, Option.map_some, Option.map_none, Nat.reduceSub, Nat.reduceAdd, Nat.reduceEqDiff, if_true, if_false, Bool.false_eq_true, reduceIte, Nat.zero_add, fComp, fItems, itemsOf, extOf, wipeE, fEnum, fRng1, fRng2, fSigns, lenD, tupD, lstD, ix0, ix1, ix2, eq_s, ne_s, eq_i, ne_i, add_i, sub_i, in_t2, in_t3, List.length_map, Bool.not_false, Bool.false_and, Bool.and_false]
      · rw [decide_eq_false (by omega : ¬ (1 : Int) ≤ (s.length : Int)), decide_eq_false h1]
        simp only [runB, fSeq, fIf, fRet, fAsg, fB, f1, f2, fA, fA0, fL, fV, fC, fTup, fLst, fNext, on1, on2, gN, gT, gsC, gs0, asB, fAnd, fOr, fBnd, fBor, fNot, fVB, fIte, fAndV, fOrV, notD, negD, fO, fO0, asI, fSl, fPar, List.map_cons, List.map_nil, List.length_cons, List.length_nil, List.reduceReplicate, List.cons_append, List.nil_append, List.append_nil, List.getElem?_cons_zero, List.getElem?_cons_succ, Option.join_some, Option.join_none, List.set_cons_zero, List.set_cons_succ, Option.bind_some, Option.bind_none, Option.map_some, Option.map_none, Nat.reduceSub, Nat.reduceAdd, Nat.reduceEqDiff, if_true, if_false, Bool.false_eq_true, reduceIte, Nat.zero_add, fComp, fItems, itemsOf, extOf, wipeE, fEnum, fRng1, fRng2, fSigns, lenD, tupD, lstD, ix0, ix1, ix2, eq_s, ne_s, eq_i, ne_i, add_i, sub_i, in_t2, in_t3, List.length_map, Bool.not_false, Bool.false_and]
    | none => rfl
    | bool b => rfl
    | int i => rfl
    | tuple ds => rfl
    | list ds => rfl
    | dict ds => rfl
theorem F_from (lo hi : Int) (d : PyData) : F__law_from [d, .int lo, .int hi] = some (.bool (isWh lo hi d)) := F_whole lo hi d
def book : PyData := .dict [(.str "do", .int 3), (.str "without", .int 3), (.str "within", .int 3), (.str "all", .int 2), (.str "any", .int 2), (.str "then", .int 2)]
theorem book_eq (ρ : En) : fDict ["do", "without", "within", "all", "any", "then"] (fA (fC (.int 3)) (fA (fC (.int 3)) (fA (fC (.int 3)) (fA (fC (.int 2)) (fA (fC (.int 2)) (fA (fC (.int 2)) fA0)))))) ρ = some book := rfl
def known (w : Str) : Prop := w = "do" ∨ w = "without" ∨ w = "within" ∨ w = "all" ∨ w = "any" ∨ w = "then"
theorem book_no {w : Str} (h : ¬ known w) : getD book (.str w) (.int 0) = some (.int 0) := by
  have h1 : ∀ v : Str, (v = "do" ∨ v = "without" ∨ v = "within" ∨ v = "all" ∨ v = "any" ∨ v = "then") → v ≠ w := fun v hv z => h (z ▸ hv)
  simp only [book, getD, isScr, asKey, Option.map_some, lookD, Bool.false_eq_true, if_false]
  rw [List.find?_cons_of_neg, List.find?_cons_of_neg, List.find?_cons_of_neg, List.find?_cons_of_neg, List.find?_cons_of_neg, List.find?_cons_of_neg]
  · rfl
  all_goals (simp only [asKey, Option.some.injEq, Sum.inr.injEq, decide_eq_true_eq]; apply h1; simp)
theorem book_do : getD book (.str "do") (.int 0) = some (.int 3) := rfl
theorem book_wo : getD book (.str "without") (.int 0) = some (.int 3) := rfl
theorem book_wi : getD book (.str "within") (.int 0) = some (.int 3) := rfl
theorem book_all : getD book (.str "all") (.int 0) = some (.int 2) := rfl
theorem book_any : getD book (.str "any") (.int 0) = some (.int 2) := rfl
theorem book_thn : getD book (.str "then") (.int 0) = some (.int 2) := rfl
theorem un_tk {n : Nat} {w : Str} {r : List PyData} (h : ¬ known w) : tk (n + 1) (.tuple (.str w :: r)) = false := by
  have h1 : ∀ v : Str, (v = "do" ∨ v = "without" ∨ v = "within" ∨ v = "all" ∨ v = "any" ∨ v = "then") → v ≠ w := fun v hv z => h (z ▸ hv)
  have g : isGw w = false := by
    simp only [isGw]
    rw [bne_str (h1 "all" (by simp)), bne_str (h1 "any" (by simp)), bne_str (h1 "then" (by simp))]
    rfl
  rw [tk, g]
  simp only [Bool.false_eq_true, if_false]
  have d1 : (w == ("do" : Str)) = false := bne_str fun z => h1 "do" (by simp) z.symm
  have d2 : (w == ("without" : Str)) = false := bne_str fun z => h1 "without" (by simp) z.symm
  have d3 : (w == ("within" : Str)) = false := bne_str fun z => h1 "within" (by simp) z.symm
  match r with
  | [] => rfl
  | [a] => rfl
  | [a, b] => simp [oneOk, d1, d2, d3]
  | a :: b :: c :: r => rfl
theorem F_ltk_grp (w : Str) (hw : w = "all" ∨ w = "any" ∨ w = "then") (n m k : Nat) (hk : k ≤ 30) (ih : ∀ d, gd k d → G__law_is_task m 0 [d, .int (n : Int)] = some (.bool (tk n d))) (b : PyData) (hb : gd k b) (n0 : (((n + 1 : Nat) : Int) == 0) = false) (n1 : ((n + 1 : Nat) : Int) - 1 = (n : Int)) (hemp : eqP (.tuple [.str w, b]) (.tuple []) = some (.bool false)) :
    runB 2 3 (B__law_is_task (G__law_is_task m)) [.tuple [.str w, b], .int ((n + 1 : Nat) : Int)] = some (.bool (grpOk (tk n) w [b])) := by
  have k2 : (((2 : Nat) : Int) == 2) = true := rfl
  have hbk : getD book (.str w) (.int 0) = some (.int 2) := by rcases hw with rfl | rfl | rfl <;> rfl
  have d1 : (w == ("do" : Str)) = false := by rcases hw with rfl | rfl | rfl <;> simp only [w_do_do, w_do_all, w_do_any, w_do_then, w_do_without, w_do_within, w_do_done, w_do_failed, w_all_do, w_all_all, w_all_any, w_all_then, w_all_without, w_all_within, w_all_done, w_all_failed, w_any_do, w_any_all, w_any_any, w_any_then, w_any_without, w_any_within, w_any_done, w_any_failed, w_then_do, w_then_all, w_then_any, w_then_then, w_then_without, w_then_within, w_then_done, w_then_failed, w_without_do, w_without_all, w_without_any, w_without_then, w_without_without, w_without_within, w_without_done, w_without_failed, w_within_do, w_within_all, w_within_any, w_within_then, w_within_without, w_within_within, w_within_done, w_within_failed, w_done_do, w_done_all, w_done_any, w_done_then, w_done_without, w_done_within, w_done_done, w_done_failed, w_failed_do, w_failed_all, w_failed_any, w_failed_then, w_failed_without, w_failed_within, w_failed_done, w_failed_failed]
  have d2 : (w == ("without" : Str)) = false := by rcases hw with rfl | rfl | rfl <;> simp only [w_do_do, w_do_all, w_do_any, w_do_then, w_do_without, w_do_within, w_do_done, w_do_failed, w_all_do, w_all_all, w_all_any, w_all_then, w_all_without, w_all_within, w_all_done, w_all_failed, w_any_do, w_any_all, w_any_any, w_any_then, w_any_without, w_any_within, w_any_done, w_any_failed, w_then_do, w_then_all, w_then_any, w_then_then, w_then_without, w_then_within, w_then_done, w_then_failed, w_without_do, w_without_all, w_without_any, w_without_then, w_without_without, w_without_within, w_without_done, w_without_failed, w_within_do, w_within_all, w_within_any, w_within_then, w_within_without, w_within_within, w_within_done, w_within_failed, w_done_do, w_done_all, w_done_any, w_done_then, w_done_without, w_done_within, w_done_done, w_done_failed, w_failed_do, w_failed_all, w_failed_any, w_failed_then, w_failed_without, w_failed_within, w_failed_done, w_failed_failed]
  have d3 : (w == ("within" : Str)) = false := by rcases hw with rfl | rfl | rfl <;> simp only [w_do_do, w_do_all, w_do_any, w_do_then, w_do_without, w_do_within, w_do_done, w_do_failed, w_all_do, w_all_all, w_all_any, w_all_then, w_all_without, w_all_within, w_all_done, w_all_failed, w_any_do, w_any_all, w_any_any, w_any_then, w_any_without, w_any_within, w_any_done, w_any_failed, w_then_do, w_then_all, w_then_any, w_then_then, w_then_without, w_then_within, w_then_done, w_then_failed, w_without_do, w_without_all, w_without_any, w_without_then, w_without_without, w_without_within, w_without_done, w_without_failed, w_within_do, w_within_all, w_within_any, w_within_then, w_within_without, w_within_within, w_within_done, w_within_failed, w_done_do, w_done_all, w_done_any, w_done_then, w_done_without, w_done_within, w_done_done, w_done_failed, w_failed_do, w_failed_all, w_failed_any, w_failed_then, w_failed_without, w_failed_within, w_failed_done, w_failed_failed]
  unfold B__law_is_task
  match b, hb with
  | .tuple ps, hb =>
    have hp : ∀ p ∈ ps, gd k p := fun p hp => by
      match k, hb with
      | k + 1, hb => exact gd_up (hb.2 p hp)
    have cm : ∀ (a : Option PyData), compL (gN 2) (fNot (fB (fL (G__law_is_task m 0) (fA (fV 2) (fA (f2 subD (fV 1) (fC (.int 1))) fA0))))) (fV 2) [a, some (.int ((n + 1 : Nat) : Int)), none] (ps.map id) = some ((ps.filter fun p => !tk n p).map id) := by
      intro a
      rw [compL_gen (e := id) (p := fun p => !tk n p) (h := id)]
      · intro p hq
        simp only [runB, fSeq, fIf, fRet, fAsg, fB, f1, f2, fA, fA0, fL, fV, fC, fTup, fLst, fNext, on1, on2, gN, gT, gsC, gs0, asB, fAnd, fOr, fBnd, fBor, fNot, fVB, fIte, fAndV, fOrV, notD, negD, fO, fO0, asI, fSl, fPar, List.map_cons, List.map_nil, List.length_cons, List.length_nil, List.reduceReplicate, List.cons_append, List.nil_append, List.append_nil, List.getElem?_cons_zero, List.getElem?_cons_succ, Option.join_some, Option.join_none, List.set_cons_zero, List.set_cons_succ, Option.bind_some, Option.bind_none, Option.map_some, Option.map_none, Nat.reduceSub, Nat.reduceAdd, Nat.reduceEqDiff, if_true, if_false, Bool.false_eq_true, reduceIte, Nat.zero_add, fComp, fItems, itemsOf, extOf, wipeE, fEnum, fRng1, fRng2, fSigns, lenD, tupD, lstD, ix0, ix1, ix2, eq_s, ne_s, eq_i, ne_i, add_i, sub_i, in_t2, in_t3, List.length_map, n1, id, ih p (hp p hq)]
      · intro p _ _
        simp only [runB, fSeq, fIf, fRet, fAsg, fB, f1, f2, fA, fA0, fL, fV, fC, fTup, fLst, fNext, on1, on2, gN, gT, gsC, gs0, asB, fAnd, fOr, fBnd, fBor, fNot, fVB, fIte, fAndV, fOrV, notD, negD, fO, fO0, asI, fSl, fPar, List.map_cons, List.map_nil, List.length_cons, List.length_nil, List.reduceReplicate, List.cons_append, List.nil_append, List.append_nil, List.getElem?_cons_zero, List.getElem?_cons_succ, Option.join_some, Option.join_none, List.set_cons_zero, List.set_cons_succ, Option.bind_some, Option.bind_none, Option.map_some, Option.map_none, Nat.reduceSub, Nat.reduceAdd, Nat.reduceEqDiff, if_true, if_false, Bool.false_eq_true, reduceIte, Nat.zero_add, fComp, fItems, itemsOf, extOf, wipeE, fEnum, fRng1, fRng2, fSigns, lenD, tupD, lstD, ix0, ix1, ix2, eq_s, ne_s, eq_i, ne_i, add_i, sub_i, in_t2, in_t3, List.length_map, id]
    rw [List.map_id, List.map_id] at cm
    have shp : SeqAt.shaped (.list (ps.filter fun p => !tk n p)) = true := by
      have := row_shaped id k (by omega) (ps.filter fun p => !tk n p) fun p hq => ⟨gd_lay (hp p (List.mem_filter.mp hq).1), gd_depth (hp p (List.mem_filter.mp hq).1)⟩
      rwa [List.map_id] at this
    have hq := eq_nil_l shp
    rw [fil_all] at hq
    simp only [runB, fSeq, fIf, fRet, fAsg, fB, f1, f2, fA, fA0, fL, fV, fC, fTup, fLst, fNext, on1, on2, gN, gT, gsC, gs0, asB, fAnd, fOr, fBnd, fBor, fNot, fVB, fIte, fAndV, fOrV, notD, negD, fO, fO0, asI, fSl, fPar, List.map_cons, List.map_nil, List.length_cons, List.length_nil, List.reduceReplicate, List.cons_append, List.nil_append, List.append_nil, List.getElem?_cons_zero, List.getElem?_cons_succ, Option.join_some, Option.join_none, List.set_cons_zero, List.set_cons_succ, Option.bind_some, Option.bind_none, Option.map_some, Option.map_none, Nat.reduceSub, Nat.reduceAdd, Nat.reduceEqDiff, if_true, if_false, Bool.false_eq_true, reduceIte, Nat.zero_add, fComp, fItems, itemsOf, extOf, wipeE, fEnum, fRng1, fRng2, fSigns, lenD, tupD, lstD, ix0, ix1, ix2, eq_s, ne_s, eq_i, ne_i, add_i, sub_i, in_t2, in_t3, List.length_map, f3, n0, isTupD, Bool.not_true, hemp, isStrD, book_eq, hbk, k2, d1, d2, d3, int_b, fLele, le_s1, grpOk]
    by_cases h1 : (if (w == ("then" : Str)) = true then 2 else 1) ≤ ps.length
    · have h1' : decide ((1 + if (w == ("then" : Str)) = true then (1 : Int) else 0) ≤ (ps.length : Int)) = true := decide_eq_true (by
        cases hz : (w == ("then" : Str)) with
        | true => rw [hz] at h1; simp only [if_true] at h1 ⊢; omega
        | false => rw [hz] at h1; simp only [Bool.false_eq_true, if_false] at h1 ⊢; omega)
      rw [decide_eq_true h1]
      by_cases h3 : ps.length ≤ 3
      · have h3' : decide ((ps.length : Int) ≤ 3) = true := decide_eq_true (by omega)
        simp only [h1', h3', decide_eq_true h3, runB, fSeq, fIf, fRet, fAsg, fB, f1, f2, fA, fA0, fL, fV, fC, fTup, fLst, fNext, on1, on2, gN, gT, gsC, gs0, asB, fAnd, fOr, fBnd, fBor, fNot, fVB, fIte, fAndV, fOrV, notD, negD, fO, fO0, asI, fSl, fPar, List.map_cons, List.map_nil, List.length_cons, List.length_nil, List.reduceReplicate, List.cons_append, List.nil_append, List.append_nil, List.getElem?_cons_zero, List.getElem?_cons_succ, Option.join_some, Option.join_none, List.set_cons_zero, List.set_cons_succ, Option.bind_some, Option.bind_none, Option.map_some, Option.map_none, Nat.reduceSub, Nat.reduceAdd, Nat.reduceEqDiff, if_true, if_false, Bool.false_eq_true, reduceIte, Nat.zero_add, fComp, fItems, itemsOf, extOf, wipeE, fEnum, fRng1, fRng2, fSigns, lenD, tupD, lstD, ix0, ix1, ix2, eq_s, ne_s, eq_i, ne_i, add_i, sub_i, in_t2, in_t3, List.length_map, Bool.not_true, cm, hq, Bool.true_and]
      · have h3' : decide ((ps.length : Int) ≤ 3) = false := decide_eq_false (by omega)
        simp only [h1', h3', decide_eq_false h3, runB, fSeq, fIf, fRet, fAsg, fB, f1, f2, fA, fA0, fL, fV, fC, fTup, fLst, fNext, on1, on2, gN, gT, gsC, gs0, asB, fAnd, fOr, fBnd, fBor, fNot, fVB, fIte, fAndV, fOrV, notD, negD, fO, fO0, asI, fSl, fPar, List.map_cons, List.map_nil, List.length_cons, List.length_nil, List.reduceReplicate, List.cons_append, List.nil_append, List.append_nil, List.getElem?_cons_zero, List.getElem?_cons_succ, Option.join_some, Option.join_none, List.set_cons_zero, List.set_cons_succ, Option.bind_some, Option.bind_none, Option.map_some, Option.map_none, Nat.reduceSub, Nat.reduceAdd, Nat.reduceEqDiff, if_true, if_false, Bool.false_eq_true, reduceIte, Nat.zero_add, fComp, fItems, itemsOf, extOf, wipeE, fEnum, fRng1, fRng2, fSigns, lenD, tupD, lstD, ix0, ix1, ix2, eq_s, ne_s, eq_i, ne_i, add_i, sub_i, in_t2, in_t3, List.length_map, Bool.not_false, Bool.false_and, Bool.and_false]
    · have h1' : decide ((1 + if (w == ("then" : Str)) = true then (1 : Int) else 0) ≤ (ps.length : Int)) = false := decide_eq_false (by
        cases hz : (w == ("then" : Str)) with
        | true => rw [hz] at h1; simp only [if_true] at h1 ⊢; omega
        | false => rw [hz] at h1; simp only [Bool.false_eq_true, if_false] at h1 ⊢; omega)
      rw [decide_eq_false h1]
      simp only [h1', runB, fSeq, fIf, fRet, fAsg, fB, f1, f2, fA, fA0, fL, fV, fC, fTup, fLst, fNext, on1, on2, gN, gT, gsC, gs0, asB, fAnd, fOr, fBnd, fBor, fNot, fVB, fIte, fAndV, fOrV, notD, negD, fO, fO0, asI, fSl, fPar, List.map_cons, List.map_nil, List.length_cons, List.length_nil, List.reduceReplicate, List.cons_append, List.nil_append, List.append_nil, List.getElem?_cons_zero, List.getElem?_cons_succ, Option.join_some, Option.join_none, List.set_cons_zero, List.set_cons_succ, Option.bind_some, Option.bind_none, Option.map_some, Option.map_none, Nat.reduceSub, Nat.reduceAdd, Nat.reduceEqDiff, if_true, if_false, Bool.false_eq_true, reduceIte, Nat.zero_add, fComp, fItems, itemsOf, extOf, wipeE, fEnum, fRng1, fRng2, fSigns, lenD, tupD, lstD, ix0, ix1, ix2, eq_s, ne_s, eq_i, ne_i, add_i, sub_i, in_t2, in_t3, List.length_map, Bool.not_false, Bool.false_and]
  | .none, hb => simp only [runB, fSeq, fIf, fRet, fAsg, fB, f1, f2, fA, fA0, fL, fV, fC, fTup, fLst, fNext, on1, on2, gN, gT, gsC, gs0, asB, fAnd, fOr, fBnd, fBor, fNot, fVB, fIte, fAndV, fOrV, notD, negD, fO, fO0, asI, fSl, fPar, List.map_cons, List.map_nil, List.length_cons, List.length_nil, List.reduceReplicate, List.cons_append, List.nil_append, List.append_nil, List.getElem?_cons_zero, List.getElem?_cons_succ, Option.join_some, Option.join_none, List.set_cons_zero, List.set_cons_succ, Option.bind_some, Option.bind_none, Option.map_some, Option.map_none, Nat.reduceSub, Nat.reduceAdd, Nat.reduceEqDiff, if_true, if_false, Bool.false_eq_true, reduceIte, Nat.zero_add, fComp, fItems, itemsOf, extOf, wipeE, fEnum, fRng1, fRng2, fSigns, lenD, tupD, lstD, ix0, ix1, ix2, eq_s, ne_s, eq_i, ne_i, add_i, sub_i, in_t2, in_t3, List.length_map, f3, n0, isTupD, Bool.not_true, Bool.not_false, hemp, isStrD, book_eq, hbk, k2, d1, d2, d3, grpOk]
  | .bool _, hb => simp only [runB, fSeq, fIf, fRet, fAsg, fB, f1, f2, fA, fA0, fL, fV, fC, fTup, fLst, fNext, on1, on2, gN, gT, gsC, gs0, asB, fAnd, fOr, fBnd, fBor, fNot, fVB, fIte, fAndV, fOrV, notD, negD, fO, fO0, asI, fSl, fPar, List.map_cons, List.map_nil, List.length_cons, List.length_nil, List.reduceReplicate, List.cons_append, List.nil_append, List.append_nil, List.getElem?_cons_zero, List.getElem?_cons_succ, Option.join_some, Option.join_none, List.set_cons_zero, List.set_cons_succ, Option.bind_some, Option.bind_none, Option.map_some, Option.map_none, Nat.reduceSub, Nat.reduceAdd, Nat.reduceEqDiff, if_true, if_false, Bool.false_eq_true, reduceIte, Nat.zero_add, fComp, fItems, itemsOf, extOf, wipeE, fEnum, fRng1, fRng2, fSigns, lenD, tupD, lstD, ix0, ix1, ix2, eq_s, ne_s, eq_i, ne_i, add_i, sub_i, in_t2, in_t3, List.length_map, f3, n0, isTupD, Bool.not_true, Bool.not_false, hemp, isStrD, book_eq, hbk, k2, d1, d2, d3, grpOk]
  | .int _, hb => simp only [runB, fSeq, fIf, fRet, fAsg, fB, f1, f2, fA, fA0, fL, fV, fC, fTup, fLst, fNext, on1, on2, gN, gT, gsC, gs0, asB, fAnd, fOr, fBnd, fBor, fNot, fVB, fIte, fAndV, fOrV, notD, negD, fO, fO0, asI, fSl, fPar, List.map_cons, List.map_nil, List.length_cons, List.length_nil, List.reduceReplicate, List.cons_append, List.nil_append, List.append_nil, List.getElem?_cons_zero, List.getElem?_cons_succ, Option.join_some, Option.join_none, List.set_cons_zero, List.set_cons_succ, Option.bind_some, Option.bind_none, Option.map_some, Option.map_none, Nat.reduceSub, Nat.reduceAdd, Nat.reduceEqDiff, if_true, if_false, Bool.false_eq_true, reduceIte, Nat.zero_add, fComp, fItems, itemsOf, extOf, wipeE, fEnum, fRng1, fRng2, fSigns, lenD, tupD, lstD, ix0, ix1, ix2, eq_s, ne_s, eq_i, ne_i, add_i, sub_i, in_t2, in_t3, List.length_map, f3, n0, isTupD, Bool.not_true, Bool.not_false, hemp, isStrD, book_eq, hbk, k2, d1, d2, d3, grpOk]
  | .str _, hb => simp only [runB, fSeq, fIf, fRet, fAsg, fB, f1, f2, fA, fA0, fL, fV, fC, fTup, fLst, fNext, on1, on2, gN, gT, gsC, gs0, asB, fAnd, fOr, fBnd, fBor, fNot, fVB, fIte, fAndV, fOrV, notD, negD, fO, fO0, asI, fSl, fPar, List.map_cons, List.map_nil, List.length_cons, List.length_nil, List.reduceReplicate, List.cons_append, List.nil_append, List.append_nil, List.getElem?_cons_zero, List.getElem?_cons_succ, Option.join_some, Option.join_none, List.set_cons_zero, List.set_cons_succ, Option.bind_some, Option.bind_none, Option.map_some, Option.map_none, Nat.reduceSub, Nat.reduceAdd, Nat.reduceEqDiff, if_true, if_false, Bool.false_eq_true, reduceIte, Nat.zero_add, fComp, fItems, itemsOf, extOf, wipeE, fEnum, fRng1, fRng2, fSigns, lenD, tupD, lstD, ix0, ix1, ix2, eq_s, ne_s, eq_i, ne_i, add_i, sub_i, in_t2, in_t3, List.length_map, f3, n0, isTupD, Bool.not_true, Bool.not_false, hemp, isStrD, book_eq, hbk, k2, d1, d2, d3, grpOk]
  | .list _, hb => simp only [runB, fSeq, fIf, fRet, fAsg, fB, f1, f2, fA, fA0, fL, fV, fC, fTup, fLst, fNext, on1, on2, gN, gT, gsC, gs0, asB, fAnd, fOr, fBnd, fBor, fNot, fVB, fIte, fAndV, fOrV, notD, negD, fO, fO0, asI, fSl, fPar, List.map_cons, List.map_nil, List.length_cons, List.length_nil, List.reduceReplicate, List.cons_append, List.nil_append, List.append_nil, List.getElem?_cons_zero, List.getElem?_cons_succ, Option.join_some, Option.join_none, List.set_cons_zero, List.set_cons_succ, Option.bind_some, Option.bind_none, Option.map_some, Option.map_none, Nat.reduceSub, Nat.reduceAdd, Nat.reduceEqDiff, if_true, if_false, Bool.false_eq_true, reduceIte, Nat.zero_add, fComp, fItems, itemsOf, extOf, wipeE, fEnum, fRng1, fRng2, fSigns, lenD, tupD, lstD, ix0, ix1, ix2, eq_s, ne_s, eq_i, ne_i, add_i, sub_i, in_t2, in_t3, List.length_map, f3, n0, isTupD, Bool.not_true, Bool.not_false, hemp, isStrD, book_eq, hbk, k2, d1, d2, d3, grpOk]
  | .dict _, hb => simp only [runB, fSeq, fIf, fRet, fAsg, fB, f1, f2, fA, fA0, fL, fV, fC, fTup, fLst, fNext, on1, on2, gN, gT, gsC, gs0, asB, fAnd, fOr, fBnd, fBor, fNot, fVB, fIte, fAndV, fOrV, notD, negD, fO, fO0, asI, fSl, fPar, List.map_cons, List.map_nil, List.length_cons, List.length_nil, List.reduceReplicate, List.cons_append, List.nil_append, List.append_nil, List.getElem?_cons_zero, List.getElem?_cons_succ, Option.join_some, Option.join_none, List.set_cons_zero, List.set_cons_succ, Option.bind_some, Option.bind_none, Option.map_some, Option.map_none, Nat.reduceSub, Nat.reduceAdd, Nat.reduceEqDiff, if_true, if_false, Bool.false_eq_true, reduceIte, Nat.zero_add, fComp, fItems, itemsOf, extOf, wipeE, fEnum, fRng1, fRng2, fSigns, lenD, tupD, lstD, ix0, ix1, ix2, eq_s, ne_s, eq_i, ne_i, add_i, sub_i, in_t2, in_t3, List.length_map, f3, n0, isTupD, Bool.not_true, Bool.not_false, hemp, isStrD, book_eq, hbk, k2, d1, d2, d3, grpOk]
/-- a wrong length -/
theorem F_ltk_len (w : Str) (r : List PyData) (n m : Nat) (c : Int) (n0 : (((n + 1 : Nat) : Int) == 0) = false) (hemp : eqP (.tuple (.str w :: r)) (.tuple []) = some (.bool false)) (hbk : getD book (.str w) (.int 0) = some (.int c)) (hl : (((r.length + 1 : Nat) : Int) == c) = false) :
    runB 2 3 (B__law_is_task (G__law_is_task m)) [.tuple (.str w :: r), .int ((n + 1 : Nat) : Int)] = some (.bool false) := by
  unfold B__law_is_task
  have hl' : neP (.int ((r.length + 1 : Nat) : Int)) (.int c) = some (.bool true) := by rw [ne_i, hl]; rfl
  simp only [runB, fSeq, fIf, fRet, fAsg, fB, f1, f2, fA, fA0, fL, fV, fC, fTup, fLst, fNext, on1, on2, gN, gT, gsC, gs0, asB, fAnd, fOr, fBnd, fBor, fNot, fVB, fIte, fAndV, fOrV, notD, negD, fO, fO0, asI, fSl, fPar, List.map_cons, List.map_nil, List.length_cons, List.length_nil, List.reduceReplicate, List.cons_append, List.nil_append, List.append_nil, List.getElem?_cons_zero, List.getElem?_cons_succ, Option.join_some, Option.join_none, List.set_cons_zero, List.set_cons_succ, Option.bind_some, Option.bind_none, Option.map_some, Option.map_none, Nat.reduceSub, Nat.reduceAdd, Nat.reduceEqDiff, if_true, if_false, Bool.false_eq_true, reduceIte, Nat.zero_add, fComp, fItems, itemsOf, extOf, wipeE, fEnum, fRng1, fRng2, fSigns, lenD, tupD, lstD, ix0, ix1, ix2, eq_s, ne_s, eq_i, ne_i, add_i, sub_i, in_t2, in_t3, List.length_map, f3, n0, isTupD, Bool.not_true, Bool.not_false, hemp, isStrD, book_eq, hbk]
  simp only [hl, runB, fSeq, fIf, fRet, fAsg, fB, f1, f2, fA, fA0, fL, fV, fC, fTup, fLst, fNext, on1, on2, gN, gT, gsC, gs0, asB, fAnd, fOr, fBnd, fBor, fNot, fVB, fIte, fAndV, fOrV, notD, negD, fO, fO0, asI, fSl, fPar, List.map_cons, List.map_nil, List.length_cons, List.length_nil, List.reduceReplicate, List.cons_append, List.nil_append, List.append_nil, List.getElem?_cons_zero, List.getElem?_cons_succ, Option.join_some, Option.join_none, List.set_cons_zero, List.set_cons_succ, Option.bind_some, Option.bind_none, Option.map_some, Option.map_none, Nat.reduceSub, Nat.reduceAdd, Nat.reduceEqDiff, if_true, if_false, Bool.false_eq_true, reduceIte, Nat.zero_add, fComp, fItems, itemsOf, extOf, wipeE, fEnum, fRng1, fRng2, fSigns, lenD, tupD, lstD, ix0, ix1, ix2, eq_s, ne_s, eq_i, ne_i, add_i, sub_i, in_t2, in_t3, List.length_map, Bool.not_false]
theorem tk_grp {n : Nat} {w : Str} (hw : isGw w = true) (r : List PyData) : tk (n + 1) (.tuple (.str w :: r)) = grpOk (tk n) w r := by
  rw [tk]
  exact if_pos hw
theorem tk_one {n : Nat} {w : Str} (hw : isGw w = false) (r : List PyData) : tk (n + 1) (.tuple (.str w :: r)) = oneOk (tk n) w r := by
  rw [tk]
  exact if_neg (by rw [hw]; simp)
theorem G_ltk : ∀ (n m k : Nat) (d : PyData), k ≤ 30 → gd k d → n + 1 ≤ m → G__law_is_task m 0 [d, .int (n : Int)] = some (.bool (tk n d))
  | n, 0, _, _, _, _, hm => by omega
  | n, m + 1, 0, _, _, h, _ => h.elim
  | n, m + 1, k + 1, d, hk, h, hm => by
    show runB 2 3 (B__law_is_task (G__law_is_task m)) [d, .int (n : Int)] = _
    cases n with
    | zero =>
      unfold B__law_is_task
      simp only [runB, fSeq, fIf, fRet, fAsg, fB, f1, f2, fA, fA0, fL, fV, fC, fTup, fLst, fNext, on1, on2, gN, gT, gsC, gs0, asB, fAnd, fOr, fBnd, fBor, fNot, fVB, fIte, fAndV, fOrV, notD, negD, fO, fO0, asI, fSl, fPar, List.map_cons, List.map_nil, List.length_cons, List.length_nil, List.reduceReplicate, List.cons_append, List.nil_append, List.append_nil, List.getElem?_cons_zero, List.getElem?_cons_succ, Option.join_some, Option.join_none, List.set_cons_zero, List.set_cons_succ, Option.bind_some, Option.bind_none, Option.map_some, Option.map_none, Nat.reduceSub, Nat.reduceAdd, Nat.reduceEqDiff, if_true, if_false, Bool.false_eq_true, reduceIte, Nat.zero_add, fComp, fItems, itemsOf, extOf, wipeE, fEnum, fRng1, fRng2, fSigns, lenD, tupD, lstD, ix0, ix1, ix2, eq_s, ne_s, eq_i, ne_i, add_i, sub_i, in_t2, in_t3, List.length_map, tk]
      rfl
    | succ n =>
      have ih : ∀ d, gd k d → G__law_is_task m 0 [d, .int (n : Int)] = some (.bool (tk n d)) := fun d hd => G_ltk n m k d (by omega) hd (by omega)
      have n0 : (((n + 1 : Nat) : Int) == 0) = false := by rw [beq_eq_false_iff_ne]; omega
      have n1 : ((n + 1 : Nat) : Int) - 1 = (n : Int) := by omega
      match d, h with
      | .none, h => unfold B__law_is_task; simp only [runB, fSeq, fIf, fRet, fAsg, fB, f1, f2, fA, fA0, fL, fV, fC, fTup, fLst, fNext, on1, on2, gN, gT, gsC, gs0, asB, fAnd, fOr, fBnd, fBor, fNot, fVB, fIte, fAndV, fOrV, notD, negD, fO, fO0, asI, fSl, fPar, List.map_cons, List.map_nil, List.length_cons, List.length_nil, List.reduceReplicate, List.cons_append, List.nil_append, List.append_nil, List.getElem?_cons_zero, List.getElem?_cons_succ, Option.join_some, Option.join_none, List.set_cons_zero, List.set_cons_succ, Option.bind_some, Option.bind_none, Option.map_some, Option.map_none, Nat.reduceSub, Nat.reduceAdd, Nat.reduceEqDiff, if_true, if_false, Bool.false_eq_true, reduceIte, Nat.zero_add, fComp, fItems, itemsOf, extOf, wipeE, fEnum, fRng1, fRng2, fSigns, lenD, tupD, lstD, ix0, ix1, ix2, eq_s, ne_s, eq_i, ne_i, add_i, sub_i, in_t2, in_t3, List.length_map, n0, isTupD, Bool.not_false, tk]
      | .bool b, h => unfold B__law_is_task; simp only [runB, fSeq, fIf, fRet, fAsg, fB, f1, f2, fA, fA0, fL, fV, fC, fTup, fLst, fNext, on1, on2, gN, gT, gsC, gs0, asB, fAnd, fOr, fBnd, fBor, fNot, fVB, fIte, fAndV, fOrV, notD, negD, fO, fO0, asI, fSl, fPar, List.map_cons, List.map_nil, List.length_cons, List.length_nil, List.reduceReplicate, List.cons_append, List.nil_append, List.append_nil, List.getElem?_cons_zero, List.getElem?_cons_succ, Option.join_some, Option.join_none, List.set_cons_zero, List.set_cons_succ, Option.bind_some, Option.bind_none, Option.map_some, Option.map_none, Nat.reduceSub, Nat.reduceAdd, Nat.reduceEqDiff, if_true, if_false, Bool.false_eq_true, reduceIte, Nat.zero_add, fComp, fItems, itemsOf, extOf, wipeE, fEnum, fRng1, fRng2, fSigns, lenD, tupD, lstD, ix0, ix1, ix2, eq_s, ne_s, eq_i, ne_i, add_i, sub_i, in_t2, in_t3, List.length_map, n0, isTupD, Bool.not_false, tk]
      | .int i, h => unfold B__law_is_task; simp only [runB, fSeq, fIf, fRet, fAsg, fB, f1, f2, fA, fA0, fL, fV, fC, fTup, fLst, fNext, on1, on2, gN, gT, gsC, gs0, asB, fAnd, fOr, fBnd, fBor, fNot, fVB, fIte, fAndV, fOrV, notD, negD, fO, fO0, asI, fSl, fPar, List.map_cons, List.map_nil, List.length_cons, List.length_nil, List.reduceReplicate, List.cons_append, List.nil_append, List.append_nil, List.getElem?_cons_zero, List.getElem?_cons_succ, Option.join_some, Option.join_none, List.set_cons_zero, List.set_cons_succ, Option.bind_some, Option.bind_none, Option.map_some, Option.map_none, Nat.reduceSub, Nat.reduceAdd, Nat.reduceEqDiff, if_true, if_false, Bool.false_eq_true, reduceIte, Nat.zero_add, fComp, fItems, itemsOf, extOf, wipeE, fEnum, fRng1, fRng2, fSigns, lenD, tupD, lstD, ix0, ix1, ix2, eq_s, ne_s, eq_i, ne_i, add_i, sub_i, in_t2, in_t3, List.length_map, n0, isTupD, Bool.not_false, tk]
      | .str s, h => unfold B__law_is_task; simp only [runB, fSeq, fIf, fRet, fAsg, fB, f1, f2, fA, fA0, fL, fV, fC, fTup, fLst, fNext, on1, on2, gN, gT, gsC, gs0, asB, fAnd, fOr, fBnd, fBor, fNot, fVB, fIte, fAndV, fOrV, notD, negD, fO, fO0, asI, fSl, fPar, List.map_cons, List.map_nil, List.length_cons, List.length_nil, List.reduceReplicate, List.cons_append, List.nil_append, List.append_nil, List.getElem?_cons_zero, List.getElem?_cons_succ, Option.join_some, Option.join_none, List.set_cons_zero, List.set_cons_succ, Option.bind_some, Option.bind_none, Option.map_some, Option.map_none, Nat.reduceSub, Nat.reduceAdd, Nat.reduceEqDiff, if_true, if_false, Bool.false_eq_true, reduceIte, Nat.zero_add, fComp, fItems, itemsOf, extOf, wipeE, fEnum, fRng1, fRng2, fSigns, lenD, tupD, lstD, ix0, ix1, ix2, eq_s, ne_s, eq_i, ne_i, add_i, sub_i, in_t2, in_t3, List.length_map, n0, isTupD, Bool.not_false, tk]
      | .list ds, h => unfold B__law_is_task; simp only [runB, fSeq, fIf, fRet, fAsg, fB, f1, f2, fA, fA0, fL, fV, fC, fTup, fLst, fNext, on1, on2, gN, gT, gsC, gs0, asB, fAnd, fOr, fBnd, fBor, fNot, fVB, fIte, fAndV, fOrV, notD, negD, fO, fO0, asI, fSl, fPar, List.map_cons, List.map_nil, List.length_cons, List.length_nil, List.reduceReplicate, List.cons_append, List.nil_append, List.append_nil, List.getElem?_cons_zero, List.getElem?_cons_succ, Option.join_some, Option.join_none, List.set_cons_zero, List.set_cons_succ, Option.bind_some, Option.bind_none, Option.map_some, Option.map_none, Nat.reduceSub, Nat.reduceAdd, Nat.reduceEqDiff, if_true, if_false, Bool.false_eq_true, reduceIte, Nat.zero_add, fComp, fItems, itemsOf, extOf, wipeE, fEnum, fRng1, fRng2, fSigns, lenD, tupD, lstD, ix0, ix1, ix2, eq_s, ne_s, eq_i, ne_i, add_i, sub_i, in_t2, in_t3, List.length_map, n0, isTupD, Bool.not_false, tk]
      | .tuple [], h =>
        unfold B__law_is_task
        have hemp : eqP (.tuple []) (.tuple []) = some (.bool true) := eqP_self (by decide +kernel)
        simp only [runB, fSeq, fIf, fRet, fAsg, fB, f1, f2, fA, fA0, fL, fV, fC, fTup, fLst, fNext, on1, on2, gN, gT, gsC, gs0, asB, fAnd, fOr, fBnd, fBor, fNot, fVB, fIte, fAndV, fOrV, notD, negD, fO, fO0, asI, fSl, fPar, List.map_cons, List.map_nil, List.length_cons, List.length_nil, List.reduceReplicate, List.cons_append, List.nil_append, List.append_nil, List.getElem?_cons_zero, List.getElem?_cons_succ, Option.join_some, Option.join_none, List.set_cons_zero, List.set_cons_succ, Option.bind_some, Option.bind_none, Option.map_some, Option.map_none, Nat.reduceSub, Nat.reduceAdd, Nat.reduceEqDiff, if_true, if_false, Bool.false_eq_true, reduceIte, Nat.zero_add, fComp, fItems, itemsOf, extOf, wipeE, fEnum, fRng1, fRng2, fSigns, lenD, tupD, lstD, ix0, ix1, ix2, eq_s, ne_s, eq_i, ne_i, add_i, sub_i, in_t2, in_t3, List.length_map, n0, isTupD, Bool.not_true, hemp, tk]
      | .tuple (a :: r), h =>
        have hemp : eqP (.tuple (a :: r)) (.tuple []) = some (.bool false) := by
          rw [eqP_of (gd_shaped (by omega) h) (by decide +kernel)]
          simp [PyData.eqv, PyData.eqvAll]
        by_cases hs : isStrD a = true
        · obtain ⟨w, rfl⟩ : ∃ w, a = .str w := by
            cases a <;> simp [isStrD] at hs
            exact ⟨_, rfl⟩
          by_cases hw : known w
          · have hg : ∀ (w : Str), w = "all" ∨ w = "any" ∨ w = "then" → isGw w = true := by
              intro w hw
              rcases hw with rfl | rfl | rfl <;> simp only [isGw, w_do_do, w_do_all, w_do_any, w_do_then, w_do_without, w_do_within, w_do_done, w_do_failed, w_all_do, w_all_all, w_all_any, w_all_then, w_all_without, w_all_within, w_all_done, w_all_failed, w_any_do, w_any_all, w_any_any, w_any_then, w_any_without, w_any_within, w_any_done, w_any_failed, w_then_do, w_then_all, w_then_any, w_then_then, w_then_without, w_then_within, w_then_done, w_then_failed, w_without_do, w_without_all, w_without_any, w_without_then, w_without_without, w_without_within, w_without_done, w_without_failed, w_within_do, w_within_all, w_within_any, w_within_then, w_within_without, w_within_within, w_within_done, w_within_failed, w_done_do, w_done_all, w_done_any, w_done_then, w_done_without, w_done_within, w_done_done, w_done_failed, w_failed_do, w_failed_all, w_failed_any, w_failed_then, w_failed_without, w_failed_within, w_failed_done, w_failed_failed, Bool.true_or, Bool.or_true]
            have ho : ∀ (w : Str), w = "do" ∨ w = "without" ∨ w = "within" → isGw w = false := by
              intro w hw
              rcases hw with rfl | rfl | rfl <;> simp only [isGw, w_do_do, w_do_all, w_do_any, w_do_then, w_do_without, w_do_within, w_do_done, w_do_failed, w_all_do, w_all_all, w_all_any, w_all_then, w_all_without, w_all_within, w_all_done, w_all_failed, w_any_do, w_any_all, w_any_any, w_any_then, w_any_without, w_any_within, w_any_done, w_any_failed, w_then_do, w_then_all, w_then_any, w_then_then, w_then_without, w_then_within, w_then_done, w_then_failed, w_without_do, w_without_all, w_without_any, w_without_then, w_without_without, w_without_within, w_without_done, w_without_failed, w_within_do, w_within_all, w_within_any, w_within_then, w_within_without, w_within_within, w_within_done, w_within_failed, w_done_do, w_done_all, w_done_any, w_done_then, w_done_without, w_done_within, w_done_done, w_done_failed, w_failed_do, w_failed_all, w_failed_any, w_failed_then, w_failed_without, w_failed_within, w_failed_done, w_failed_failed, Bool.or_self]
            have grps : (w = "all" ∨ w = "any" ∨ w = "then") → getD book (.str w) (.int 0) = some (.int 2) → runB 2 3 (B__law_is_task (G__law_is_task m)) [.tuple (.str w :: r), .int ((n + 1 : Nat) : Int)] = some (.bool (tk (n + 1) (.tuple (.str w :: r)))) := by
              intro hw hbk
              rw [tk_grp (hg w hw)]
              match r, h, hemp with
              | [], h, hemp => exact F_ltk_len w [] n m 2 n0 hemp hbk rfl
              | [b], h, hemp => exact F_ltk_grp w hw n m k (by omega) ih b (gd_t h b (by simp)) n0 n1 hemp
              | b :: c :: r, h, hemp =>
                have eg : grpOk (tk n) w (b :: c :: r) = false := by cases b <;> rfl
                rw [eg]
                exact F_ltk_len w (b :: c :: r) n m 2 n0 hemp hbk (by rw [beq_eq_false_iff_ne]; simp; omega)
            have ones : (w = "do" ∨ w = "without" ∨ w = "within") → getD book (.str w) (.int 0) = some (.int 3) → runB 2 3 (B__law_is_task (G__law_is_task m)) [.tuple (.str w :: r), .int ((n + 1 : Nat) : Int)] = some (.bool (tk (n + 1) (.tuple (.str w :: r)))) := by
              intro hw hbk
              rw [tk_one (ho w hw)]
              match r, h, hemp with
              | [], h, hemp => exact F_ltk_len w [] n m 3 n0 hemp hbk rfl
              | [b], h, hemp => exact F_ltk_len w [b] n m 3 n0 hemp hbk rfl
              | [b, c], h, hemp =>
                have hb := gd_t h b (by simp)
                have hc := gd_t h c (by simp)
                have k3 : (((3 : Nat) : Int) == 3) = true := rfl
                unfold B__law_is_task
                rcases hw with rfl | rfl | rfl
                · cases e : isNm b <;> simp only [runB, fSeq, fIf, fRet, fAsg, fB, f1, f2, fA, fA0, fL, fV, fC, fTup, fLst, fNext, on1, on2, gN, gT, gsC, gs0, asB, fAnd, fOr, fBnd, fBor, fNot, fVB, fIte, fAndV, fOrV, notD, negD, fO, fO0, asI, fSl, fPar, List.map_cons, List.map_nil, List.length_cons, List.length_nil, List.reduceReplicate, List.cons_append, List.nil_append, List.append_nil, List.getElem?_cons_zero, List.getElem?_cons_succ, Option.join_some, Option.join_none, List.set_cons_zero, List.set_cons_succ, Option.bind_some, Option.bind_none, Option.map_some, Option.map_none, Nat.reduceSub, Nat.reduceAdd, Nat.reduceEqDiff, if_true, if_false, Bool.false_eq_true, reduceIte, Nat.zero_add, fComp, fItems, itemsOf, extOf, wipeE, fEnum, fRng1, fRng2, fSigns, lenD, tupD, lstD, ix0, ix1, ix2, eq_s, ne_s, eq_i, ne_i, add_i, sub_i, in_t2, in_t3, List.length_map, f3, n0, isTupD, Bool.not_true, hemp, isStrD, book_eq, hbk, k3, w_do_do, w_do_all, w_do_any, w_do_then, w_do_without, w_do_within, w_do_done, w_do_failed, w_all_do, w_all_all, w_all_any, w_all_then, w_all_without, w_all_within, w_all_done, w_all_failed, w_any_do, w_any_all, w_any_any, w_any_then, w_any_without, w_any_within, w_any_done, w_any_failed, w_then_do, w_then_all, w_then_any, w_then_then, w_then_without, w_then_within, w_then_done, w_then_failed, w_without_do, w_without_all, w_without_any, w_without_then, w_without_without, w_without_within, w_without_done, w_without_failed, w_within_do, w_within_all, w_within_any, w_within_then, w_within_without, w_within_within, w_within_done, w_within_failed, w_done_do, w_done_all, w_done_any, w_done_then, w_done_without, w_done_within, w_done_done, w_done_failed, w_failed_do, w_failed_all, w_failed_any, w_failed_then, w_failed_without, w_failed_within, w_failed_done, w_failed_failed, F_lname hb, F_from, oneOk, e, Bool.true_and, Bool.false_and]
                · cases e : isNm b <;> simp only [runB, fSeq, fIf, fRet, fAsg, fB, f1, f2, fA, fA0, fL, fV, fC, fTup, fLst, fNext, on1, on2, gN, gT, gsC, gs0, asB, fAnd, fOr, fBnd, fBor, fNot, fVB, fIte, fAndV, fOrV, notD, negD, fO, fO0, asI, fSl, fPar, List.map_cons, List.map_nil, List.length_cons, List.length_nil, List.reduceReplicate, List.cons_append, List.nil_append, List.append_nil, List.getElem?_cons_zero, List.getElem?_cons_succ, Option.join_some, Option.join_none, List.set_cons_zero, List.set_cons_succ, Option.bind_some, Option.bind_none, Option.map_some, Option.map_none, Nat.reduceSub, Nat.reduceAdd, Nat.reduceEqDiff, if_true, if_false, Bool.false_eq_true, reduceIte, Nat.zero_add, fComp, fItems, itemsOf, extOf, wipeE, fEnum, fRng1, fRng2, fSigns, lenD, tupD, lstD, ix0, ix1, ix2, eq_s, ne_s, eq_i, ne_i, add_i, sub_i, in_t2, in_t3, List.length_map, f3, n0, isTupD, Bool.not_true, hemp, isStrD, book_eq, hbk, k3, w_do_do, w_do_all, w_do_any, w_do_then, w_do_without, w_do_within, w_do_done, w_do_failed, w_all_do, w_all_all, w_all_any, w_all_then, w_all_without, w_all_within, w_all_done, w_all_failed, w_any_do, w_any_all, w_any_any, w_any_then, w_any_without, w_any_within, w_any_done, w_any_failed, w_then_do, w_then_all, w_then_any, w_then_then, w_then_without, w_then_within, w_then_done, w_then_failed, w_without_do, w_without_all, w_without_any, w_without_then, w_without_without, w_without_within, w_without_done, w_without_failed, w_within_do, w_within_all, w_within_any, w_within_then, w_within_without, w_within_within, w_within_done, w_within_failed, w_done_do, w_done_all, w_done_any, w_done_then, w_done_without, w_done_within, w_done_done, w_done_failed, w_failed_do, w_failed_all, w_failed_any, w_failed_then, w_failed_without, w_failed_within, w_failed_done, w_failed_failed, F_lname hb, F_from, n1, ih c hc, oneOk, e, Bool.true_and, Bool.false_and]
                · cases e : isWh 1 9 b <;> simp only [runB, fSeq, fIf, fRet, fAsg, fB, f1, f2, fA, fA0, fL, fV, fC, fTup, fLst, fNext, on1, on2, gN, gT, gsC, gs0, asB, fAnd, fOr, fBnd, fBor, fNot, fVB, fIte, fAndV, fOrV, notD, negD, fO, fO0, asI, fSl, fPar, List.map_cons, List.map_nil, List.length_cons, List.length_nil, List.reduceReplicate, List.cons_append, List.nil_append, List.append_nil, List.getElem?_cons_zero, List.getElem?_cons_succ, Option.join_some, Option.join_none, List.set_cons_zero, List.set_cons_succ, Option.bind_some, Option.bind_none, Option.map_some, Option.map_none, Nat.reduceSub, Nat.reduceAdd, Nat.reduceEqDiff, if_true, if_false, Bool.false_eq_true, reduceIte, Nat.zero_add, fComp, fItems, itemsOf, extOf, wipeE, fEnum, fRng1, fRng2, fSigns, lenD, tupD, lstD, ix0, ix1, ix2, eq_s, ne_s, eq_i, ne_i, add_i, sub_i, in_t2, in_t3, List.length_map, f3, n0, isTupD, Bool.not_true, hemp, isStrD, book_eq, hbk, k3, w_do_do, w_do_all, w_do_any, w_do_then, w_do_without, w_do_within, w_do_done, w_do_failed, w_all_do, w_all_all, w_all_any, w_all_then, w_all_without, w_all_within, w_all_done, w_all_failed, w_any_do, w_any_all, w_any_any, w_any_then, w_any_without, w_any_within, w_any_done, w_any_failed, w_then_do, w_then_all, w_then_any, w_then_then, w_then_without, w_then_within, w_then_done, w_then_failed, w_without_do, w_without_all, w_without_any, w_without_then, w_without_without, w_without_within, w_without_done, w_without_failed, w_within_do, w_within_all, w_within_any, w_within_then, w_within_without, w_within_within, w_within_done, w_within_failed, w_done_do, w_done_all, w_done_any, w_done_then, w_done_without, w_done_within, w_done_done, w_done_failed, w_failed_do, w_failed_all, w_failed_any, w_failed_then, w_failed_without, w_failed_within, w_failed_done, w_failed_failed, F_lname hb, F_from, n1, ih c hc, oneOk, e, Bool.true_and, Bool.false_and]
              | b :: c :: c2 :: r, h, hemp => exact F_ltk_len w (b :: c :: c2 :: r) n m 3 n0 hemp hbk (by rw [beq_eq_false_iff_ne]; simp; omega)
            rcases hw with e | e | e | e | e | e
            · exact ones (.inl e) (by rw [e]; rfl)
            · exact ones (.inr (.inl e)) (by rw [e]; rfl)
            · exact ones (.inr (.inr e)) (by rw [e]; rfl)
            · exact grps (.inl e) (by rw [e]; rfl)
            · exact grps (.inr (.inl e)) (by rw [e]; rfl)
            · exact grps (.inr (.inr e)) (by rw [e]; rfl)
          · rw [un_tk hw]
            exact F_ltk_len w r n m 0 n0 hemp (book_no hw) (by rw [beq_eq_false_iff_ne]; omega)
        · have hs' : isStrD a = false := by simpa using hs
          have e : tk (n + 1) (.tuple (a :: r)) = false := by
            cases a with
            | str w => cases hs'
            | none => rfl
            | bool _ => rfl
            | int _ => rfl
            | list _ => rfl
            | tuple _ => rfl
            | dict _ => rfl
          rw [e]
          unfold B__law_is_task
          simp only [runB, fSeq, fIf, fRet, fAsg, fB, f1, f2, fA, fA0, fL, fV, fC, fTup, fLst, fNext, on1, on2, gN, gT, gsC, gs0, asB, fAnd, fOr, fBnd, fBor, fNot, fVB, fIte, fAndV, fOrV, notD, negD, fO, fO0, asI, fSl, fPar, List.map_cons, List.map_nil, List.length_cons, List.length_nil, List.reduceReplicate, List.cons_append, List.nil_append, List.append_nil, List.getElem?_cons_zero, List.getElem?_cons_succ, Option.join_some, Option.join_none, List.set_cons_zero, List.set_cons_succ, Option.bind_some, Option.bind_none, Option.map_some, Option.map_none, Nat.reduceSub, Nat.reduceAdd, Nat.reduceEqDiff, if_true, if_false, Bool.false_eq_true, reduceIte, Nat.zero_add, fComp, fItems, itemsOf, extOf, wipeE, fEnum, fRng1, fRng2, fSigns, lenD, tupD, lstD, ix0, ix1, ix2, eq_s, ne_s, eq_i, ne_i, add_i, sub_i, in_t2, in_t3, List.length_map, n0, isTupD, Bool.not_true, hemp, hs', Bool.not_false]
theorem F_ltk {k : Nat} {d : PyData} (hk : k ≤ 30) (h : gd k d) : F__law_is_task [d, .int 4] = some (.bool (tk 4 d)) := G_ltk 4 24 k d hk h (by omega)
theorem all_enc {n : Nat} : ∀ (ps : List PyData), (∀ p ∈ ps, ∃ t, p = enc t ∧ okT n t) → ∃ ts : List Task, ps = ts.map enc ∧ ∀ t ∈ ts, okT n t
  | [], _ => ⟨[], rfl, by simp⟩
  | p :: ps, h => by
    obtain ⟨t, e, ht⟩ := h p List.mem_cons_self
    obtain ⟨ts, e2, hts⟩ := all_enc ps fun q hq => h q (List.mem_cons_of_mem _ hq)
    refine ⟨t :: ts, by rw [e, e2]; rfl, fun u hu => ?_⟩
    rcases List.mem_cons.mp hu with rfl | hu
    · exact ht
    · exact hts u hu
theorem nm_str {k : Nat} {b : PyData} (hb : gd k b) (h : isNm b = true) : ∃ s, b = .str s ∧ PyData.canLay0 (.str s) = true := by
  cases b with
  | str s =>
    match k, hb with
    | k + 1, hb => exact ⟨s, rfl, hb.1⟩
  | none => cases h
  | bool _ => cases h
  | int _ => cases h
  | list _ => cases h
  | tuple _ => cases h
  | dict _ => cases h
theorem wh_int {lo hi : Int} {b : PyData} (h : isWh lo hi b = true) : ∃ i, b = .int i ∧ lo ≤ i ∧ i ≤ hi := by
  cases b with
  | int i =>
    simp only [isWh, Bool.and_eq_true, decide_eq_true_eq] at h
    exact ⟨i, rfl, h⟩
  | none => cases h
  | bool _ => cases h
  | str _ => cases h
  | list _ => cases h
  | tuple _ => cases h
  | dict _ => cases h
theorem tk_enc : ∀ (n k : Nat) (d : PyData), gd k d → tk n d = true → ∃ t, d = enc t ∧ okT n t
  | 0, _, _, _, h => by simp [tk] at h
  | n + 1, 0, _, hg, _ => hg.elim
  | n + 1, k + 1, d, hg, h => by
    have ih : ∀ d, gd k d → tk n d = true → ∃ t, d = enc t ∧ okT n t := fun d hd hh => tk_enc n k d hd hh
    match d, hg, h with
    | .tuple (.str w :: r), hg, h =>
      by_cases hw : isGw w = true
      · rw [tk_grp hw] at h
        match r, hg, h with
        | [.tuple ps], hg, h =>
          have hps := gd_t hg (.tuple ps) (by simp)
          have hp : ∀ p ∈ ps, gd k p := fun p hp => by
            match k, hps with
            | k + 1, hps => exact gd_up (hps.2 p hp)
          simp only [grpOk, Bool.and_eq_true, decide_eq_true_eq] at h
          obtain ⟨ts, rfl, hts⟩ := all_enc ps fun p hq => ih p (hp p hq) (List.all_eq_true.mp h.2.2 p hq)
          rw [List.length_map] at h
          have hw' : ∃ g : Gw, w = g.str := by
            simp only [isGw, Bool.or_eq_true, beq_iff_eq] at hw
            rcases hw with hw | hw | hw
            · exact ⟨.all, hw.symm⟩
            · exact ⟨.any, hw.symm⟩
            · exact ⟨.thn, hw.symm⟩
          obtain ⟨g, rfl⟩ := hw'
          refine ⟨.grp g ts, by simp only [enc, encs_map], ?_, ⟨fun z => ?_, by omega⟩, hts⟩
          · intro z
            rw [z] at h
            have := h.1
            split at this <;> simp at this
          · subst z
            have := h.1
            rw [if_pos (by decide +kernel)] at this
            exact this
      · have hw' : isGw w = false := by simpa using hw
        rw [tk_one hw'] at h
        match r, hg, h with
        | [a, b], hg, h =>
          have ha := gd_t hg a (by simp)
          have hb := gd_t hg b (by simp)
          simp only [oneOk] at h
          by_cases e1 : (w == ("do" : Str)) = true
          · rw [if_pos e1, Bool.and_eq_true] at h
            obtain ⟨s, rfl, hs⟩ := nm_str ha h.1
            obtain ⟨i, rfl, hi⟩ := wh_int h.2
            rw [beq_iff_eq] at e1
            exact ⟨.one s i, by simp only [enc, e1], hs, hi.1⟩
          · rw [if_neg e1] at h
            by_cases e2 : (w == ("without" : Str)) = true
            · rw [if_pos e2, Bool.and_eq_true] at h
              obtain ⟨s, rfl, hs⟩ := nm_str ha h.1
              obtain ⟨t, rfl, ht⟩ := ih b hb h.2
              rw [beq_iff_eq] at e2
              exact ⟨.wout s t, by simp only [enc, e2], hs, ht⟩
            · rw [if_neg e2, Bool.and_eq_true, Bool.and_eq_true] at h
              obtain ⟨i, rfl, hi⟩ := wh_int h.2.1
              obtain ⟨t, rfl, ht⟩ := ih b hb h.2.2
              have e3 := h.1
              rw [beq_iff_eq] at e3
              exact ⟨.wthn i t, by simp only [enc, e3], hi.1, ht⟩
theorem G_lsiz : ∀ (k n : Nat) (t : Task), okT k t → k ≤ n → G__law_size n 0 [enc t] = some (.int (siz t : Int))
  | 0, _, _, h, _ => h.elim
  | k + 1, 0, _, _, hn => by omega
  | k + 1, n + 1, t, h, hn => by
    have ih : ∀ t, okT k t → G__law_size n 0 [enc t] = some (.int (siz t : Int)) := fun t ht => G_lsiz k n t ht (by omega)
    show runB 1 2 (B__law_size (G__law_size n)) [enc t] = _
    unfold B__law_size
    cases t with
    | one d m =>
      simp only [runB, fSeq, fIf, fRet, fAsg, fB, f1, f2, fA, fA0, fL, fV, fC, fTup, fLst, fNext, on1, on2, gN, gT, gsC, gs0, asB, fAnd, fOr, fBnd, fBor, fNot, fVB, fIte, fAndV, fOrV, notD, negD, fO, fO0, asI, fSl, fPar, List.map_cons, List.map_nil, List.length_cons, List.length_nil, List.reduceReplicate, List.cons_append, List.nil_append, List.append_nil, List.getElem?_cons_zero, List.getElem?_cons_succ, Option.join_some, Option.join_none, List.set_cons_zero, List.set_cons_succ, Option.bind_some, Option.bind_none, Option.map_some, Option.map_none, Nat.reduceSub, Nat.reduceAdd, Nat.reduceEqDiff, if_true, if_false, Bool.false_eq_true, reduceIte, Nat.zero_add, fComp, fItems, itemsOf, extOf, wipeE, fEnum, fRng1, fRng2, fSigns, lenD, tupD, lstD, ix0, ix1, ix2, eq_s, ne_s, eq_i, ne_i, add_i, sub_i, in_t2, in_t3, List.length_map, enc, w_do_do, w_do_all, w_do_any, w_do_then, w_do_without, w_do_within, w_do_done, w_do_failed, w_all_do, w_all_all, w_all_any, w_all_then, w_all_without, w_all_within, w_all_done, w_all_failed, w_any_do, w_any_all, w_any_any, w_any_then, w_any_without, w_any_within, w_any_done, w_any_failed, w_then_do, w_then_all, w_then_any, w_then_then, w_then_without, w_then_within, w_then_done, w_then_failed, w_without_do, w_without_all, w_without_any, w_without_then, w_without_without, w_without_within, w_without_done, w_without_failed, w_within_do, w_within_all, w_within_any, w_within_then, w_within_without, w_within_within, w_within_done, w_within_failed, w_done_do, w_done_all, w_done_any, w_done_then, w_done_without, w_done_within, w_done_done, w_done_failed, w_failed_do, w_failed_all, w_failed_any, w_failed_then, w_failed_without, w_failed_within, w_failed_done, w_failed_failed, siz]
      rfl
    | grp w ts =>
      have cm : ∀ (a : Option PyData), compL (gN 1) fYes (fL (G__law_size n 0) (fA (fV 1) fA0)) [a, none] (ts.map enc) = some (ts.map fun t => PyData.int (siz t : Int)) := by
        intro a
        rw [compL_map (e := enc) (h := fun t => PyData.int (siz t : Int))]
        intro t ht
        simp only [runB, fSeq, fIf, fRet, fAsg, fB, f1, f2, fA, fA0, fL, fV, fC, fTup, fLst, fNext, on1, on2, gN, gT, gsC, gs0, asB, fAnd, fOr, fBnd, fBor, fNot, fVB, fIte, fAndV, fOrV, notD, negD, fO, fO0, asI, fSl, fPar, List.map_cons, List.map_nil, List.length_cons, List.length_nil, List.reduceReplicate, List.cons_append, List.nil_append, List.append_nil, List.getElem?_cons_zero, List.getElem?_cons_succ, Option.join_some, Option.join_none, List.set_cons_zero, List.set_cons_succ, Option.bind_some, Option.bind_none, Option.map_some, Option.map_none, Nat.reduceSub, Nat.reduceAdd, Nat.reduceEqDiff, if_true, if_false, Bool.false_eq_true, reduceIte, Nat.zero_add, fComp, fItems, itemsOf, extOf, wipeE, fEnum, fRng1, fRng2, fSigns, lenD, tupD, lstD, ix0, ix1, ix2, eq_s, ne_s, eq_i, ne_i, add_i, sub_i, in_t2, in_t3, List.length_map, ih t (h.2.2 t ht)]
      cases w
      · simp only [runB, fSeq, fIf, fRet, fAsg, fB, f1, f2, fA, fA0, fL, fV, fC, fTup, fLst, fNext, on1, on2, gN, gT, gsC, gs0, asB, fAnd, fOr, fBnd, fBor, fNot, fVB, fIte, fAndV, fOrV, notD, negD, fO, fO0, asI, fSl, fPar, List.map_cons, List.map_nil, List.length_cons, List.length_nil, List.reduceReplicate, List.cons_append, List.nil_append, List.append_nil, List.getElem?_cons_zero, List.getElem?_cons_succ, Option.join_some, Option.join_none, List.set_cons_zero, List.set_cons_succ, Option.bind_some, Option.bind_none, Option.map_some, Option.map_none, Nat.reduceSub, Nat.reduceAdd, Nat.reduceEqDiff, if_true, if_false, Bool.false_eq_true, reduceIte, Nat.zero_add, fComp, fItems, itemsOf, extOf, wipeE, fEnum, fRng1, fRng2, fSigns, lenD, tupD, lstD, ix0, ix1, ix2, eq_s, ne_s, eq_i, ne_i, add_i, sub_i, in_t2, in_t3, List.length_map, enc, encs_map, Gw.str_all, w_do_do, w_do_all, w_do_any, w_do_then, w_do_without, w_do_within, w_do_done, w_do_failed, w_all_do, w_all_all, w_all_any, w_all_then, w_all_without, w_all_within, w_all_done, w_all_failed, w_any_do, w_any_all, w_any_any, w_any_then, w_any_without, w_any_within, w_any_done, w_any_failed, w_then_do, w_then_all, w_then_any, w_then_then, w_then_without, w_then_within, w_then_done, w_then_failed, w_without_do, w_without_all, w_without_any, w_without_then, w_without_without, w_without_within, w_without_done, w_without_failed, w_within_do, w_within_all, w_within_any, w_within_then, w_within_without, w_within_within, w_within_done, w_within_failed, w_done_do, w_done_all, w_done_any, w_done_then, w_done_without, w_done_within, w_done_done, w_done_failed, w_failed_do, w_failed_all, w_failed_any, w_failed_then, w_failed_without, w_failed_within, w_failed_done, w_failed_failed, Bool.or_self, cm, sum_siz, siz]; first | rfl | (congr 2; omega)
      · simp only [runB, fSeq, fIf, fRet, fAsg, fB, f1, f2, fA, fA0, fL, fV, fC, fTup, fLst, fNext, on1, on2, gN, gT, gsC, gs0, asB, fAnd, fOr, fBnd, fBor, fNot, fVB, fIte, fAndV, fOrV, notD, negD, fO, fO0, asI, fSl, fPar, List.map_cons, List.map_nil, List.length_cons, List.length_nil, List.reduceReplicate, List.cons_append, List.nil_append, List.append_nil, List.getElem?_cons_zero, List.getElem?_cons_succ, Option.join_some, Option.join_none, List.set_cons_zero, List.set_cons_succ, Option.bind_some, Option.bind_none, Option.map_some, Option.map_none, Nat.reduceSub, Nat.reduceAdd, Nat.reduceEqDiff, if_true, if_false, Bool.false_eq_true, reduceIte, Nat.zero_add, fComp, fItems, itemsOf, extOf, wipeE, fEnum, fRng1, fRng2, fSigns, lenD, tupD, lstD, ix0, ix1, ix2, eq_s, ne_s, eq_i, ne_i, add_i, sub_i, in_t2, in_t3, List.length_map, enc, encs_map, Gw.str_any, w_do_do, w_do_all, w_do_any, w_do_then, w_do_without, w_do_within, w_do_done, w_do_failed, w_all_do, w_all_all, w_all_any, w_all_then, w_all_without, w_all_within, w_all_done, w_all_failed, w_any_do, w_any_all, w_any_any, w_any_then, w_any_without, w_any_within, w_any_done, w_any_failed, w_then_do, w_then_all, w_then_any, w_then_then, w_then_without, w_then_within, w_then_done, w_then_failed, w_without_do, w_without_all, w_without_any, w_without_then, w_without_without, w_without_within, w_without_done, w_without_failed, w_within_do, w_within_all, w_within_any, w_within_then, w_within_without, w_within_within, w_within_done, w_within_failed, w_done_do, w_done_all, w_done_any, w_done_then, w_done_without, w_done_within, w_done_done, w_done_failed, w_failed_do, w_failed_all, w_failed_any, w_failed_then, w_failed_without, w_failed_within, w_failed_done, w_failed_failed, Bool.or_self, cm, sum_siz, siz]; first | rfl | (congr 2; omega)
      · simp only [runB, fSeq, fIf, fRet, fAsg, fB, f1, f2, fA, fA0, fL, fV, fC, fTup, fLst, fNext, on1, on2, gN, gT, gsC, gs0, asB, fAnd, fOr, fBnd, fBor, fNot, fVB, fIte, fAndV, fOrV, notD, negD, fO, fO0, asI, fSl, fPar, List.map_cons, List.map_nil, List.length_cons, List.length_nil, List.reduceReplicate, List.cons_append, List.nil_append, List.append_nil, List.getElem?_cons_zero, List.getElem?_cons_succ, Option.join_some, Option.join_none, List.set_cons_zero, List.set_cons_succ, Option.bind_some, Option.bind_none, Option.map_some, Option.map_none, Nat.reduceSub, Nat.reduceAdd, Nat.reduceEqDiff, if_true, if_false, Bool.false_eq_true, reduceIte, Nat.zero_add, fComp, fItems, itemsOf, extOf, wipeE, fEnum, fRng1, fRng2, fSigns, lenD, tupD, lstD, ix0, ix1, ix2, eq_s, ne_s, eq_i, ne_i, add_i, sub_i, in_t2, in_t3, List.length_map, enc, encs_map, Gw.str_thn, w_do_do, w_do_all, w_do_any, w_do_then, w_do_without, w_do_within, w_do_done, w_do_failed, w_all_do, w_all_all, w_all_any, w_all_then, w_all_without, w_all_within, w_all_done, w_all_failed, w_any_do, w_any_all, w_any_any, w_any_then, w_any_without, w_any_within, w_any_done, w_any_failed, w_then_do, w_then_all, w_then_any, w_then_then, w_then_without, w_then_within, w_then_done, w_then_failed, w_without_do, w_without_all, w_without_any, w_without_then, w_without_without, w_without_within, w_without_done, w_without_failed, w_within_do, w_within_all, w_within_any, w_within_then, w_within_without, w_within_within, w_within_done, w_within_failed, w_done_do, w_done_all, w_done_any, w_done_then, w_done_without, w_done_within, w_done_done, w_done_failed, w_failed_do, w_failed_all, w_failed_any, w_failed_then, w_failed_without, w_failed_within, w_failed_done, w_failed_failed, Bool.or_self, cm, sum_siz, siz]; first | rfl | (congr 2; omega)
    | wout d t =>
      simp only [runB, fSeq, fIf, fRet, fAsg, fB, f1, f2, fA, fA0, fL, fV, fC, fTup, fLst, fNext, on1, on2, gN, gT, gsC, gs0, asB, fAnd, fOr, fBnd, fBor, fNot, fVB, fIte, fAndV, fOrV, notD, negD, fO, fO0, asI, fSl, fPar, List.map_cons, List.map_nil, List.length_cons, List.length_nil, List.reduceReplicate, List.cons_append, List.nil_append, List.append_nil, List.getElem?_cons_zero, List.getElem?_cons_succ, Option.join_some, Option.join_none, List.set_cons_zero, List.set_cons_succ, Option.bind_some, Option.bind_none, Option.map_some, Option.map_none, Nat.reduceSub, Nat.reduceAdd, Nat.reduceEqDiff, if_true, if_false, Bool.false_eq_true, reduceIte, Nat.zero_add, fComp, fItems, itemsOf, extOf, wipeE, fEnum, fRng1, fRng2, fSigns, lenD, tupD, lstD, ix0, ix1, ix2, eq_s, ne_s, eq_i, ne_i, add_i, sub_i, in_t2, in_t3, List.length_map, enc, w_do_do, w_do_all, w_do_any, w_do_then, w_do_without, w_do_within, w_do_done, w_do_failed, w_all_do, w_all_all, w_all_any, w_all_then, w_all_without, w_all_within, w_all_done, w_all_failed, w_any_do, w_any_all, w_any_any, w_any_then, w_any_without, w_any_within, w_any_done, w_any_failed, w_then_do, w_then_all, w_then_any, w_then_then, w_then_without, w_then_within, w_then_done, w_then_failed, w_without_do, w_without_all, w_without_any, w_without_then, w_without_without, w_without_within, w_without_done, w_without_failed, w_within_do, w_within_all, w_within_any, w_within_then, w_within_without, w_within_within, w_within_done, w_within_failed, w_done_do, w_done_all, w_done_any, w_done_then, w_done_without, w_done_within, w_done_done, w_done_failed, w_failed_do, w_failed_all, w_failed_any, w_failed_then, w_failed_without, w_failed_within, w_failed_done, w_failed_failed, Bool.true_or, ih t h.2, siz]; first | rfl | (congr 2; omega)
    | wthn d t =>
      simp only [runB, fSeq, fIf, fRet, fAsg, fB, f1, f2, fA, fA0, fL, fV, fC, fTup, fLst, fNext, on1, on2, gN, gT, gsC, gs0, asB, fAnd, fOr, fBnd, fBor, fNot, fVB, fIte, fAndV, fOrV, notD, negD, fO, fO0, asI, fSl, fPar, List.map_cons, List.map_nil, List.length_cons, List.length_nil, List.reduceReplicate, List.cons_append, List.nil_append, List.append_nil, List.getElem?_cons_zero, List.getElem?_cons_succ, Option.join_some, Option.join_none, List.set_cons_zero, List.set_cons_succ, Option.bind_some, Option.bind_none, Option.map_some, Option.map_none, Nat.reduceSub, Nat.reduceAdd, Nat.reduceEqDiff, if_true, if_false, Bool.false_eq_true, reduceIte, Nat.zero_add, fComp, fItems, itemsOf, extOf, wipeE, fEnum, fRng1, fRng2, fSigns, lenD, tupD, lstD, ix0, ix1, ix2, eq_s, ne_s, eq_i, ne_i, add_i, sub_i, in_t2, in_t3, List.length_map, enc, w_do_do, w_do_all, w_do_any, w_do_then, w_do_without, w_do_within, w_do_done, w_do_failed, w_all_do, w_all_all, w_all_any, w_all_then, w_all_without, w_all_within, w_all_done, w_all_failed, w_any_do, w_any_all, w_any_any, w_any_then, w_any_without, w_any_within, w_any_done, w_any_failed, w_then_do, w_then_all, w_then_any, w_then_then, w_then_without, w_then_within, w_then_done, w_then_failed, w_without_do, w_without_all, w_without_any, w_without_then, w_without_without, w_without_within, w_without_done, w_without_failed, w_within_do, w_within_all, w_within_any, w_within_then, w_within_without, w_within_within, w_within_done, w_within_failed, w_done_do, w_done_all, w_done_any, w_done_then, w_done_without, w_done_within, w_done_done, w_done_failed, w_failed_do, w_failed_all, w_failed_any, w_failed_then, w_failed_without, w_failed_within, w_failed_done, w_failed_failed, Bool.or_true, ih t h.2, siz]; first | rfl | (congr 2; omega)
/-! ### what is drawn -/
def raw : Nat → PyData → Prop
  | 0, _ => False
  | _ + 1, .int i => -100 ≤ i ∧ i ≤ 100
  | _ + 1, .str s => PyData.canLay0 (.str s) = true ∧ s.length ≤ 10
  | k + 1, .tuple ds => ds.length ≤ 3 ∧ ∀ d ∈ ds, raw k d
  | _, _ => False
theorem raw_gd : ∀ {k : Nat} {d : PyData}, raw k d → gd k d
  | 0, _, h => h.elim
  | k + 1, .int i, h => ⟨by have := h.1; omega, by have := h.2; omega⟩
  | k + 1, .str s, h => ⟨h.1, by have := h.2; omega⟩
  | k + 1, .tuple ds, h => ⟨by have := h.1; omega, fun d hd => raw_gd (h.2 d hd)⟩
  | k + 1, .none, h => h.elim
  | k + 1, .bool _, h => h.elim
  | k + 1, .list _, h => h.elim
  | k + 1, .dict _, h => h.elim
theorem G_swap {A : Str} (hA : PyData.canLay0 (.str A) = true ∧ A.length ≤ 10) : ∀ (k n : Nat) (d : PyData), raw k d → k ≤ n → ∃ d', G__law_swapped n 0 [d, .dict [(.str "b", .str A)]] = some d' ∧ raw k d'
  | 0, _, _, h, _ => h.elim
  | k + 1, 0, _, _, hn => by omega
  | k + 1, n + 1, d, h, hn => by
    have ih : ∀ d, raw k d → ∃ d', G__law_swapped n 0 [d, .dict [(.str "b", .str A)]] = some d' ∧ raw k d' := fun d hd => G_swap hA k n d hd (by omega)
    show ∃ d', runB 2 3 (B__law_swapped (G__law_swapped n)) [d, .dict [(.str "b", .str A)]] = some d' ∧ _
    unfold B__law_swapped
    match d, h with
    | .int i, h => exact ⟨.int i, by simp only [runB, fSeq, fIf, fRet, fAsg, fB, f1, f2, fA, fA0, fL, fV, fC, fTup, fLst, fNext, on1, on2, gN, gT, gsC, gs0, asB, fAnd, fOr, fBnd, fBor, fNot, fVB, fIte, fAndV, fOrV, notD, negD, fO, fO0, asI, fSl, fPar, List.map_cons, List.map_nil, List.length_cons, List.length_nil, List.reduceReplicate, List.cons_append, List.nil_append, List.append_nil, List.getElem?_cons_zero, List.getElem?_cons_succ, Option.join_some, Option.join_none, List.set_cons_zero, List.set_cons_succ, Option.bind_some, Option.bind_none, Option.map_some, Option.map_none, Nat.reduceSub, Nat.reduceAdd, Nat.reduceEqDiff, if_true, if_false, Bool.false_eq_true, reduceIte, Nat.zero_add, fComp, fItems, itemsOf, extOf, wipeE, fEnum, fRng1, fRng2, fSigns, lenD, tupD, lstD, ix0, ix1, ix2, eq_s, ne_s, eq_i, ne_i, add_i, sub_i, in_t2, in_t3, List.length_map, isTupD, isStrD], h⟩
    | .str s, h =>
      have hg : getD (.dict [(.str "b", .str A)]) (.str s) (.str s) = some (.str (if s = "b" then A else s)) := by
        simp only [getD, isScr, asKey, Option.map_some, lookD, Bool.false_eq_true, if_false]
        by_cases hb : s = "b"
        · subst hb; rfl
        · rw [if_neg hb, List.find?_cons_of_neg]
          · rfl
          · simp only [asKey, Option.some.injEq, Sum.inr.injEq, decide_eq_true_eq]; exact fun z => hb z.symm
      refine ⟨.str (if s = "b" then A else s), by simp only [runB, fSeq, fIf, fRet, fAsg, fB, f1, f2, fA, fA0, fL, fV, fC, fTup, fLst, fNext, on1, on2, gN, gT, gsC, gs0, asB, fAnd, fOr, fBnd, fBor, fNot, fVB, fIte, fAndV, fOrV, notD, negD, fO, fO0, asI, fSl, fPar, List.map_cons, List.map_nil, List.length_cons, List.length_nil, List.reduceReplicate, List.cons_append, List.nil_append, List.append_nil, List.getElem?_cons_zero, List.getElem?_cons_succ, Option.join_some, Option.join_none, List.set_cons_zero, List.set_cons_succ, Option.bind_some, Option.bind_none, Option.map_some, Option.map_none, Nat.reduceSub, Nat.reduceAdd, Nat.reduceEqDiff, if_true, if_false, Bool.false_eq_true, reduceIte, Nat.zero_add, fComp, fItems, itemsOf, extOf, wipeE, fEnum, fRng1, fRng2, fSigns, lenD, tupD, lstD, ix0, ix1, ix2, eq_s, ne_s, eq_i, ne_i, add_i, sub_i, in_t2, in_t3, List.length_map, isTupD, isStrD, f3, hg], ?_⟩
      split
      · exact hA
      · exact h
    | .tuple ds, h =>
      have : ∃ es, compL (gN 2) fYes (fL (G__law_swapped n 0) (fA (fV 2) (fA (fV 1) fA0))) [some (.tuple ds), some (.dict [(.str "b", .str A)]), none] ds = some es ∧ es.length = ds.length ∧ ∀ e ∈ es, raw k e := by
        have hd := h.2
        generalize some (PyData.tuple ds) = T
        clear h
        induction ds with
        | nil => exact ⟨[], rfl, rfl, by simp⟩
        | cons d ds ihd =>
          obtain ⟨e, h1, h2⟩ := ih d (hd d List.mem_cons_self)
          obtain ⟨es, h3, h4, h5⟩ := ihd fun x hx => hd x (List.mem_cons_of_mem _ hx)
          refine ⟨e :: es, ?_, by simp [h4], fun x hx => ?_⟩
          · simp only [compL, runB, fSeq, fIf, fRet, fAsg, fB, f1, f2, fA, fA0, fL, fV, fC, fTup, fLst, fNext, on1, on2, gN, gT, gsC, gs0, asB, fAnd, fOr, fBnd, fBor, fNot, fVB, fIte, fAndV, fOrV, notD, negD, fO, fO0, asI, fSl, fPar, List.map_cons, List.map_nil, List.length_cons, List.length_nil, List.reduceReplicate, List.cons_append, List.nil_append, List.append_nil, List.getElem?_cons_zero, List.getElem?_cons_succ, Option.join_some, Option.join_none, List.set_cons_zero, List.set_cons_succ, Option.bind_some, Option.bind_none, Option.map_some, Option.map_none, Nat.reduceSub, Nat.reduceAdd, Nat.reduceEqDiff, if_true, if_false, Bool.false_eq_true, reduceIte, Nat.zero_add, fComp, fItems, itemsOf, extOf, wipeE, fEnum, fRng1, fRng2, fSigns, lenD, tupD, lstD, ix0, ix1, ix2, eq_s, ne_s, eq_i, ne_i, add_i, sub_i, in_t2, in_t3, List.length_map, fYes, h1, h3]
          · rcases List.mem_cons.mp hx with rfl | hx
            · exact h2
            · exact h5 x hx
      obtain ⟨es, h1, h2, h3⟩ := this
      refine ⟨.tuple es, by simp only [runB, fSeq, fIf, fRet, fAsg, fB, f1, f2, fA, fA0, fL, fV, fC, fTup, fLst, fNext, on1, on2, gN, gT, gsC, gs0, asB, fAnd, fOr, fBnd, fBor, fNot, fVB, fIte, fAndV, fOrV, notD, negD, fO, fO0, asI, fSl, fPar, List.map_cons, List.map_nil, List.length_cons, List.length_nil, List.reduceReplicate, List.cons_append, List.nil_append, List.append_nil, List.getElem?_cons_zero, List.getElem?_cons_succ, Option.join_some, Option.join_none, List.set_cons_zero, List.set_cons_succ, Option.bind_some, Option.bind_none, Option.map_some, Option.map_none, Nat.reduceSub, Nat.reduceAdd, Nat.reduceEqDiff, if_true, if_false, Bool.false_eq_true, reduceIte, Nat.zero_add, fComp, fItems, itemsOf, extOf, wipeE, fEnum, fRng1, fRng2, fSigns, lenD, tupD, lstD, ix0, ix1, ix2, eq_s, ne_s, eq_i, ne_i, add_i, sub_i, in_t2, in_t3, List.length_map, isTupD, h1], ?_, h3⟩
      rw [h2]
      exact h.1
theorem raw_up : ∀ {k : Nat} {d : PyData}, raw k d → raw (k + 1) d
  | 0, _, h => h.elim
  | k + 1, .int i, h => h
  | k + 1, .str s, h => h
  | k + 1, .tuple ds, h => ⟨h.1, fun d hd => raw_up (h.2 d hd)⟩
  | k + 1, .none, h => h.elim
  | k + 1, .bool _, h => h.elim
  | k + 1, .list _, h => h.elim
  | k + 1, .dict _, h => h.elim
theorem raw_le {n m : Nat} (h : n ≤ m) {d : PyData} (hd : raw n d) : raw m d := by
  induction h with
  | refl => exact hd
  | step _ ih => exact raw_up ih
theorem raw_abc {k : Nat} {j : Int} (h0 : 0 ≤ j) (h : j < 3) : raw (k + 1) (.str (sAt "abc" j)) := by
  refine ⟨lay_abc h0 h, ?_⟩
  have : j = 0 ∨ j = 1 ∨ j = 2 := by omega
  rcases this with rfl | rfl | rfl <;> decide +kernel
theorem raw3 {k : Nat} {a b c : PyData} (ha : raw k a) (hb : raw k b) (hc : raw k c) : raw (k + 1) (.tuple [a, b, c]) := ⟨by simp, fun d hd => by
  simp only [List.mem_cons, List.not_mem_nil, or_false] at hd
  rcases hd with rfl | rfl | rfl
  · exact ha
  · exact hb
  · exact hc⟩
theorem raw_w {k : Nat} (w : Str) (h1 : PyData.canLay0 (.str w) = true) (h2 : w.length ≤ 10) : raw (k + 1) (.str w) := ⟨h1, h2⟩
theorem raw_tsk : ∀ (k : Nat) (n : Int), raw (2 * k + 2) (enc (tsk 4 k n))
  | 0, n => by
    have h3 := mod_b (n / 8) 3 (by decide)
    have h4 := mod_b (n / 64) 4 (by decide)
    simp only [tsk, enc]
    exact raw3 (raw_w "do" (by decide +kernel) (by decide +kernel)) (raw_abc h3.1 h3.2) ⟨by omega, by omega⟩
  | k + 1, n => by
    have h3 := mod_b (n / 8) 3 (by decide)
    have h4 := mod_b (n / 64) 4 (by decide)
    unfold tsk
    split
    · simp only [enc]
      exact raw3 (raw_w "do" (by decide +kernel) (by decide +kernel)) (raw_abc h3.1 h3.2) ⟨by omega, by omega⟩
    · split
      · simp only [enc]
        exact raw3 (raw_w "without" (by decide +kernel) (by decide +kernel)) (raw_abc h3.1 h3.2) (raw_le (by omega) (raw_tsk k _))
      · split
        · have := inMany_b n
          simp only [enc]
          exact raw3 (raw_w "within" (by decide +kernel) (by decide +kernel)) ⟨by omega, by omega⟩ (raw_le (by omega) (raw_tsk k _))
        · have hc := cnt_b n
          simp only [enc, encs_map]
          refine ⟨by simp, fun d hd => ?_⟩
          simp only [List.mem_cons, List.not_mem_nil, or_false] at hd
          rcases hd with rfl | rfl
          · refine raw_w _ (lay_word _) ?_
            cases word n <;> decide +kernel
          · refine ⟨by simp; omega, fun d hd => ?_⟩
            rw [List.map_map] at hd
            obtain ⟨i, _, rfl⟩ := List.mem_map.mp hd
            exact raw_tsk k _
theorem cut_mem {α : Type} {xs : List α} {lo hi : Option Int} {x : α} (h : x ∈ cutL xs lo hi) : x ∈ xs := List.mem_of_mem_drop (List.mem_of_mem_take h)
theorem cut_len {α : Type} (xs : List α) (lo hi : Option Int) : (cutL xs lo hi).length ≤ xs.length := by
  unfold cutL
  rw [List.length_take, List.length_drop]
  omega
theorem ixg {K : Nat} {L : List PyData} {j : Int} (h0 : 0 ≤ j) (h : j < L.length) (hL : ∀ d ∈ L, gd K d) : ∃ d', ixD (.list L) (.int j) = some d' ∧ gd K d' := by
  have hj : j.toNat < L.length := by omega
  refine ⟨L[j.toNat], ?_, hL _ (List.getElem_mem hj)⟩
  simp only [ixD]
  rw [atI_nn _ _ h0 h, List.getElem?_eq_getElem hj]
def one3 : PyData := .tuple [.str "do", .str "a", .int 1]
def L17 : List PyData := [.none, .bool true, .int 0, .int 4, .int 5, .int 9, .int 10, .str "", .str "a", .str "sixsix", .str "A", .str "do", .str "all", .str "then", .tuple [], one3, .list []]
def L4 : List PyData := [.tuple [.str "do", .str "a", .int 5], .tuple [.str "within", .int 10, one3], .tuple [.str "then", .tuple [one3]], .str "without"]
theorem add_L : addD (.list L17) (.list L4) = some (.list (L17 ++ L4)) := by
  simp only [addD]
  exact if_pos (by decide)
theorem gd_s {k : Nat} (s : Str) (h1 : PyData.canLay0 (.str s) = true) (h2 : s.length ≤ 1000) : gd (k + 1) (.str s) := ⟨h1, h2⟩
theorem gd_one3 {k : Nat} : gd (k + 2) one3 := ⟨by simp, fun d hd => by
  simp only [List.mem_cons, List.not_mem_nil, or_false] at hd
  rcases hd with rfl | rfl | rfl
  · exact gd_s _ (by decide +kernel) (by decide +kernel)
  · exact gd_s _ (by decide +kernel) (by decide +kernel)
  · exact ⟨by decide, by decide⟩⟩
theorem gd_3 {k : Nat} {a b c : PyData} (ha : gd k a) (hb : gd k b) (hc : gd k c) : gd (k + 1) (.tuple [a, b, c]) := ⟨by simp, fun d hd => by
  simp only [List.mem_cons, List.not_mem_nil, or_false] at hd
  rcases hd with rfl | rfl | rfl
  · exact ha
  · exact hb
  · exact hc⟩
theorem gd_2 {k : Nat} {a b : PyData} (ha : gd k a) (hb : gd k b) : gd (k + 1) (.tuple [a, b]) := ⟨by simp, fun d hd => by
  simp only [List.mem_cons, List.not_mem_nil, or_false] at hd
  rcases hd with rfl | rfl
  · exact ha
  · exact hb⟩
theorem gd_L : ∀ d ∈ L17 ++ L4, gd 5 d := by
  intro d hd
  simp only [L17, L4, List.cons_append, List.nil_append, List.mem_cons, List.not_mem_nil, or_false] at hd
  rcases hd with rfl | rfl | rfl | rfl | rfl | rfl | rfl | rfl | rfl | rfl | rfl | rfl | rfl | rfl | rfl | rfl | rfl | rfl | rfl | rfl | rfl
  · trivial
  · trivial
  · exact ⟨by decide, by decide⟩
  · exact ⟨by decide, by decide⟩
  · exact ⟨by decide, by decide⟩
  · exact ⟨by decide, by decide⟩
  · exact ⟨by decide, by decide⟩
  · exact gd_s _ (by decide +kernel) (by decide +kernel)
  · exact gd_s _ (by decide +kernel) (by decide +kernel)
  · exact gd_s _ (by decide +kernel) (by decide +kernel)
  · exact gd_s _ (by decide +kernel) (by decide +kernel)
  · exact gd_s _ (by decide +kernel) (by decide +kernel)
  · exact gd_s _ (by decide +kernel) (by decide +kernel)
  · exact gd_s _ (by decide +kernel) (by decide +kernel)
  · exact ⟨by simp, by simp⟩
  · exact gd_one3
  · exact ⟨by simp, by simp⟩
  · exact gd_3 (gd_s _ (by decide +kernel) (by decide +kernel)) (gd_s _ (by decide +kernel) (by decide +kernel)) ⟨by decide, by decide⟩
  · exact gd_3 (gd_s _ (by decide +kernel) (by decide +kernel)) ⟨by decide, by decide⟩ gd_one3
  · exact gd_2 (gd_s _ (by decide +kernel) (by decide +kernel)) ⟨by simp, fun d hd => by rw [List.mem_singleton.mp hd]; exact gd_one3⟩
  · exact gd_s _ (by decide +kernel) (by decide +kernel)
theorem str_dec : ∀ n : Fin 201, PyData.canLay0 (.str (toString ((n.val : Int) - 100))) = true ∧ Str.length (toString ((n.val : Int) - 100)) ≤ 1000 := by decide +kernel
theorem str_i {i : Int} (h0 : -100 ≤ i) (h : i ≤ 100) : ∃ s, strD (.int i) = some (.str s) ∧ gd 1 (.str s) := by
  have hl : i.natAbs.log2 < 1920 := by
    have h1 : i.natAbs ≤ 100 := by omega
    rcases Nat.eq_zero_or_pos i.natAbs with z | z
    · rw [z]; decide
    · exact Nat.lt_trans ((Nat.log2_lt (by omega)).mpr (show i.natAbs < 2 ^ 7 by omega)) (by decide : 7 < 1920)
  refine ⟨toString i, ?_, ?_⟩
  · simp only [strD]
    exact if_pos hl
  · have := str_dec ⟨(i + 100).toNat, by omega⟩
    simp only at this
    rw [show (((i + 100).toNat : Nat) : Int) - 100 = i by omega] at this
    exact this
theorem gt_i (a b : Int) : gtD (.int a) (.int b) = some (.bool (decide (b < a))) := rfl
theorem rep2 {ds : List PyData} (h0 : ds ≠ []) (h : ds.length ≤ 1000) : mulD (.tuple ds) (.int 2) = some (.tuple (ds ++ ds)) := by
  simp only [mulD]
  rw [if_neg (by decide), if_pos ⟨h0, by decide, by decide, h⟩]
  simp [List.replicate]
theorem G_spoil : ∀ (k n : Nat) (d : PyData) (num : Int) (deep : Nat), raw k d → k ≤ n → ∃ d', G__law_spoilt n 0 [d, .int num, .int (deep : Int)] = some d' ∧ gd (k + 5) d'
  | 0, _, _, _, _, h, _ => h.elim
  | k + 1, 0, _, _, _, _, hn => by omega
  | k + 1, n + 1, d, num, deep, h, hn => by
    show ∃ d', runB 3 6 (B__law_spoilt (G__law_spoilt n)) [d, .int num, .int (deep : Int)] = some d' ∧ _
    unfold B__law_spoilt
    have m6 := mod_p (i := num) (j := 6) (by decide)
    have d6 := fdv_p (i := num) (j := 6) (by decide)
    have d12 := fdv_p (i := num) (j := 12) (by decide)
    have m2 := mod_p (i := num / 6) (j := 2) (by decide)
    have m66 := mod_p (i := num / 12) (j := 6) (by decide)
    have m21 := mod_p (i := num / 6) (j := 21) (by decide)
    have b6 := mod_b (num / 12) 6 (by decide)
    have b21 := mod_b (num / 6) 21 (by decide)
    obtain ⟨z, hz, gz⟩ := ixg (K := 5) (L := L17 ++ L4) (j := num / 6 % 21) b21.1 (by simpa [L17, L4] using b21.2) gd_L
    have gz' : gd (k + 1 + 5) z := gd_le (by omega) gz
    have aL : addD (.list [.none, .bool true, .int 0, .int 4, .int 5, .int 9, .int 10, .str "", .str "a", .str "sixsix", .str "A", .str "do", .str "all", .str "then", .tuple [], .tuple [.str "do", .str "a", .int 1], .list []]) (.list [.tuple [.str "do", .str "a", .int 5], .tuple [.str "within", .int 10, .tuple [.str "do", .str "a", .int 1]], .tuple [.str "then", .tuple [.tuple [.str "do", .str "a", .int 1]]], .str "without"]) = some (.list (L17 ++ L4)) := add_L
    match d, h with
    | .str s, h => exact ⟨z, by simp only [runB, fSeq, fIf, fRet, fAsg, fB, f1, f2, fA, fA0, fL, fV, fC, fTup, fLst, fNext, on1, on2, gN, gT, gsC, gs0, asB, fAnd, fOr, fBnd, fBor, fNot, fVB, fIte, fAndV, fOrV, notD, negD, fO, fO0, asI, fSl, fPar, List.map_cons, List.map_nil, List.length_cons, List.length_nil, List.reduceReplicate, List.cons_append, List.nil_append, List.append_nil, List.getElem?_cons_zero, List.getElem?_cons_succ, Option.join_some, Option.join_none, List.set_cons_zero, List.set_cons_succ, Option.bind_some, Option.bind_none, Option.map_some, Option.map_none, Nat.reduceSub, Nat.reduceAdd, Nat.reduceEqDiff, if_true, if_false, Bool.false_eq_true, reduceIte, Nat.zero_add, fComp, fItems, itemsOf, extOf, wipeE, fEnum, fRng1, fRng2, fSigns, lenD, tupD, lstD, ix0, ix1, ix2, eq_s, ne_s, eq_i, ne_i, add_i, sub_i, in_t2, in_t3, List.length_map, isTupD, isIntD, gt_i, fAnd, fBnd, d6, m21, aL, hz]; cases decide ((0 : Int) < deep) <;> simp only [runB, fSeq, fIf, fRet, fAsg, fB, f1, f2, fA, fA0, fL, fV, fC, fTup, fLst, fNext, on1, on2, gN, gT, gsC, gs0, asB, fAnd, fOr, fBnd, fBor, fNot, fVB, fIte, fAndV, fOrV, notD, negD, fO, fO0, asI, fSl, fPar, List.map_cons, List.map_nil, List.length_cons, List.length_nil, List.reduceReplicate, List.cons_append, List.nil_append, List.append_nil, List.getElem?_cons_zero, List.getElem?_cons_succ, Option.join_some, Option.join_none, List.set_cons_zero, List.set_cons_succ, Option.bind_some, Option.bind_none, Option.map_some, Option.map_none, Nat.reduceSub, Nat.reduceAdd, Nat.reduceEqDiff, if_true, if_false, Bool.false_eq_true, reduceIte, Nat.zero_add, fComp, fItems, itemsOf, extOf, wipeE, fEnum, fRng1, fRng2, fSigns, lenD, tupD, lstD, ix0, ix1, ix2, eq_s, ne_s, eq_i, ne_i, add_i, sub_i, in_t2, in_t3, List.length_map, aL, d6, m21, hz], gz'⟩
    | .int i, h =>
      obtain ⟨s, hs, gs⟩ := str_i h.1 h.2
      obtain ⟨y, hy, gy⟩ := ixg (K := 1) (L := [.str s, .int (0 - i), .int (i + 1), .bool (i == 1), .int (i + 5), .int 0]) (j := num / 12 % 6) b6.1 (by simpa using b6.2) (by
        intro d hd
        have h1 := h.1
        have h2 := h.2
        simp only [List.mem_cons, List.not_mem_nil, or_false] at hd
        rcases hd with rfl | rfl | rfl | rfl | rfl | rfl
        · exact gs
        · exact ⟨by omega, by omega⟩
        · exact ⟨by omega, by omega⟩
        · trivial
        · exact ⟨by omega, by omega⟩
        · exact ⟨by omega, by omega⟩)
      cases e : (num / 6 % 2 == 0) with
      | true => exact ⟨y, by cases e0 : decide ((0 : Int) < deep) <;> simp only [runB, fSeq, fIf, fRet, fAsg, fB, f1, f2, fA, fA0, fL, fV, fC, fTup, fLst, fNext, on1, on2, gN, gT, gsC, gs0, asB, fAnd, fOr, fBnd, fBor, fNot, fVB, fIte, fAndV, fOrV, notD, negD, fO, fO0, asI, fSl, fPar, List.map_cons, List.map_nil, List.length_cons, List.length_nil, List.reduceReplicate, List.cons_append, List.nil_append, List.append_nil, List.getElem?_cons_zero, List.getElem?_cons_succ, Option.join_some, Option.join_none, List.set_cons_zero, List.set_cons_succ, Option.bind_some, Option.bind_none, Option.map_some, Option.map_none, Nat.reduceSub, Nat.reduceAdd, Nat.reduceEqDiff, if_true, if_false, Bool.false_eq_true, reduceIte, Nat.zero_add, fComp, fItems, itemsOf, extOf, wipeE, fEnum, fRng1, fRng2, fSigns, lenD, tupD, lstD, ix0, ix1, ix2, eq_s, ne_s, eq_i, ne_i, add_i, sub_i, in_t2, in_t3, List.length_map, isTupD, isIntD, gt_i, e0, d6, m2, e, hs, d12, m66, hy], gd_le (by omega) gy⟩
      | false => exact ⟨z, by cases e0 : decide ((0 : Int) < deep) <;> simp only [runB, fSeq, fIf, fRet, fAsg, fB, f1, f2, fA, fA0, fL, fV, fC, fTup, fLst, fNext, on1, on2, gN, gT, gsC, gs0, asB, fAnd, fOr, fBnd, fBor, fNot, fVB, fIte, fAndV, fOrV, notD, negD, fO, fO0, asI, fSl, fPar, List.map_cons, List.map_nil, List.length_cons, List.length_nil, List.reduceReplicate, List.cons_append, List.nil_append, List.append_nil, List.getElem?_cons_zero, List.getElem?_cons_succ, Option.join_some, Option.join_none, List.set_cons_zero, List.set_cons_succ, Option.bind_some, Option.bind_none, Option.map_some, Option.map_none, Nat.reduceSub, Nat.reduceAdd, Nat.reduceEqDiff, if_true, if_false, Bool.false_eq_true, reduceIte, Nat.zero_add, fComp, fItems, itemsOf, extOf, wipeE, fEnum, fRng1, fRng2, fSigns, lenD, tupD, lstD, ix0, ix1, ix2, eq_s, ne_s, eq_i, ne_i, add_i, sub_i, in_t2, in_t3, List.length_map, isTupD, isIntD, gt_i, e0, d6, m2, e, m21, aL, hz], gz'⟩
    | .tuple ds, h =>
      by_cases hne : ds = []
      · subst hne
        have l0 : decide ((0 : Int) < ((0 : Nat) : Int)) = false := rfl
        exact ⟨z, by cases e0 : decide ((0 : Int) < deep) <;> simp only [runB, fSeq, fIf, fRet, fAsg, fB, f1, f2, fA, fA0, fL, fV, fC, fTup, fLst, fNext, on1, on2, gN, gT, gsC, gs0, asB, fAnd, fOr, fBnd, fBor, fNot, fVB, fIte, fAndV, fOrV, notD, negD, fO, fO0, asI, fSl, fPar, List.map_cons, List.map_nil, List.length_cons, List.length_nil, List.reduceReplicate, List.cons_append, List.nil_append, List.append_nil, List.getElem?_cons_zero, List.getElem?_cons_succ, Option.join_some, Option.join_none, List.set_cons_zero, List.set_cons_succ, Option.bind_some, Option.bind_none, Option.map_some, Option.map_none, Nat.reduceSub, Nat.reduceAdd, Nat.reduceEqDiff, if_true, if_false, Bool.false_eq_true, reduceIte, Nat.zero_add, fComp, fItems, itemsOf, extOf, wipeE, fEnum, fRng1, fRng2, fSigns, lenD, tupD, lstD, ix0, ix1, ix2, eq_s, ne_s, eq_i, ne_i, add_i, sub_i, in_t2, in_t3, List.length_map, isTupD, isIntD, gt_i, e0, l0, d6, m21, aL, hz], gz'⟩
      · have lp : 0 < ds.length := List.length_pos_iff.mpr hne
        have l1 : decide ((0 : Int) < ((ds.length : Nat) : Int)) = true := decide_eq_true (by omega)
        have hl := h.1
        by_cases hc : decide ((0 : Int) < deep) = true ∧ decide (0 < num % 6) = true
        · have md := mod_p (i := num / 6) (j := (ds.length : Int)) (by omega)
          have hb := mod_b (num / 6) (ds.length : Int) (by omega)
          have hj : (num / 6 % (ds.length : Int)).toNat < ds.length := by omega
          have hix : ixD (.tuple ds) (.int (num / 6 % (ds.length : Int))) = some ds[(num / 6 % (ds.length : Int)).toNat] := by
            simp only [ixD]
            rw [atI_nn _ _ hb.1 hb.2, List.getElem?_eq_getElem hj]
          have fd := fdv_p (i := drawn num deep) (j := 4) (by decide)
          have hdp : 0 < deep := by have := of_decide_eq_true hc.1; omega
          obtain ⟨x, hx, gx⟩ := G_spoil k n ds[(num / 6 % (ds.length : Int)).toNat] (drawn num deep / 4) (deep - 1) (h.2 _ (List.getElem_mem hj)) (by omega)
          rw [show ((deep - 1 : Nat) : Int) = (deep : Int) - 1 by omega] at hx
          generalize num / 6 % (ds.length : Int) = j at md hb hj hix hx
          have a1 : addD (.tuple (cutL ds none (some j))) (.tuple [x]) = some (.tuple (cutL ds none (some j) ++ [x])) := add_t (by
            have := cut_len ds none (some j)
            simp
            omega)
          have a2 : addD (.tuple (cutL ds none (some j) ++ [x])) (.tuple (cutL ds (some (j + 1)) none)) = some (.tuple (cutL ds none (some j) ++ [x] ++ cutL ds (some (j + 1)) none)) := add_t (by
            have := cut_len ds none (some j)
            have := cut_len ds (some (j + 1)) none
            simp
            omega)
          refine ⟨.tuple (cutL ds none (some j) ++ [x] ++ cutL ds (some (j + 1)) none), ?_, ?_, ?_⟩
          · simp only [runB, fSeq, fIf, fRet, fAsg, fB, f1, f2, fA, fA0, fL, fV, fC, fTup, fLst, fNext, on1, on2, gN, gT, gsC, gs0, asB, fAnd, fOr, fBnd, fBor, fNot, fVB, fIte, fAndV, fOrV, notD, negD, fO, fO0, asI, fSl, fPar, List.map_cons, List.map_nil, List.length_cons, List.length_nil, List.reduceReplicate, List.cons_append, List.nil_append, List.append_nil, List.getElem?_cons_zero, List.getElem?_cons_succ, Option.join_some, Option.join_none, List.set_cons_zero, List.set_cons_succ, Option.bind_some, Option.bind_none, Option.map_some, Option.map_none, Nat.reduceSub, Nat.reduceAdd, Nat.reduceEqDiff, if_true, if_false, Bool.false_eq_true, reduceIte, Nat.zero_add, fComp, fItems, itemsOf, extOf, wipeE, fEnum, fRng1, fRng2, fSigns, lenD, tupD, lstD, ix0, ix1, ix2, eq_s, ne_s, eq_i, ne_i, add_i, sub_i, in_t2, in_t3, List.length_map, isTupD, gt_i, hc.1, l1, m6, hc.2, d6, md, hix, F_drawn, fd, hx, slD, a1, a2]
          · have := cut_len ds none (some j)
            have := cut_len ds (some (j + 1)) none
            simp
            omega
          · intro e he
            rcases List.mem_append.mp he with he | he
            · rcases List.mem_append.mp he with he | he
              · exact gd_le (by omega) (raw_gd (h.2 e (cut_mem he)))
              · rw [List.mem_singleton.mp he]
                exact gx
            · exact gd_le (by omega) (raw_gd (h.2 e (cut_mem he)))
        · have hce : (decide ((0 : Int) < deep) && decide (0 < num % 6)) = false := by
            cases e1 : decide ((0 : Int) < deep) with
            | false => rfl
            | true =>
              cases e2 : decide (0 < num % 6) with
              | false => rfl
              | true => exact absurd ⟨e1, e2⟩ hc
          have first : ∀ (x : Option Bool), x = some false → x = some false := fun _ h => h
          cases e : (num / 6 % 2 == 0) with
          | true =>
            have t1 : addD (.tuple ds) (.tuple (cutL ds (some (-1)) none)) = some (.tuple (ds ++ cutL ds (some (-1)) none)) := add_t (by
              have := cut_len ds (some (-1)) none
              omega)
            have t2 := rep2 hne (by omega : ds.length ≤ 1000)
            have gm : ∀ es : List PyData, es.length ≤ 20 → (∀ e ∈ es, e ∈ ds) → gd (k + 1) (.tuple es) := fun es hl hm => ⟨hl, fun e he => raw_gd (h.2 e (hm e he))⟩
            obtain ⟨y, hy, gy⟩ := ixg (K := k + 1) (L := [.list ds, .tuple (cutL ds none (some (-1))), .tuple (ds ++ cutL ds (some (-1)) none), .tuple (cutL ds (some 1) none), .tuple ds.reverse, (.tuple (ds ++ ds))]) (j := num / 12 % 6) b6.1 (by simpa using b6.2) (by
              intro d hd
              simp only [List.mem_cons, List.not_mem_nil, or_false] at hd
              rcases hd with rfl | rfl | rfl | rfl | rfl | rfl
              · exact ⟨by omega, fun e he => raw_gd (h.2 e he)⟩
              · exact gm _ (by have := cut_len ds none (some (-1)); omega) fun e he => cut_mem he
              · refine gm _ (by have := cut_len ds (some (-1)) none; simp; omega) fun e he => ?_
                rcases List.mem_append.mp he with he | he
                · exact he
                · exact cut_mem he
              · exact gm _ (by have := cut_len ds (some 1) none; omega) fun e he => cut_mem he
              · exact gm _ (by simp; omega) fun e he => by simpa using he
              · exact gm _ (by simp; omega) fun e he => by simpa using he)
            refine ⟨y, ?_, gd_le (by omega) gy⟩
            cases e1 : decide ((0 : Int) < deep) with
            | false => simp only [runB, fSeq, fIf, fRet, fAsg, fB, f1, f2, fA, fA0, fL, fV, fC, fTup, fLst, fNext, on1, on2, gN, gT, gsC, gs0, asB, fAnd, fOr, fBnd, fBor, fNot, fVB, fIte, fAndV, fOrV, notD, negD, fO, fO0, asI, fSl, fPar, List.map_cons, List.map_nil, List.length_cons, List.length_nil, List.reduceReplicate, List.cons_append, List.nil_append, List.append_nil, List.getElem?_cons_zero, List.getElem?_cons_succ, Option.join_some, Option.join_none, List.set_cons_zero, List.set_cons_succ, Option.bind_some, Option.bind_none, Option.map_some, Option.map_none, Nat.reduceSub, Nat.reduceAdd, Nat.reduceEqDiff, if_true, if_false, Bool.false_eq_true, reduceIte, Nat.zero_add, fComp, fItems, itemsOf, extOf, wipeE, fEnum, fRng1, fRng2, fSigns, lenD, tupD, lstD, ix0, ix1, ix2, eq_s, ne_s, eq_i, ne_i, add_i, sub_i, in_t2, in_t3, List.length_map, isTupD, gt_i, e1, l1, d6, m2, e, slD, t1, t2, revD, d12, m66, hy]
            | true =>
              have e2 : decide (0 < num % 6) = false := by rw [e1] at hce; simpa using hce
              simp only [runB, fSeq, fIf, fRet, fAsg, fB, f1, f2, fA, fA0, fL, fV, fC, fTup, fLst, fNext, on1, on2, gN, gT, gsC, gs0, asB, fAnd, fOr, fBnd, fBor, fNot, fVB, fIte, fAndV, fOrV, notD, negD, fO, fO0, asI, fSl, fPar, List.map_cons, List.map_nil, List.length_cons, List.length_nil, List.reduceReplicate, List.cons_append, List.nil_append, List.append_nil, List.getElem?_cons_zero, List.getElem?_cons_succ, Option.join_some, Option.join_none, List.set_cons_zero, List.set_cons_succ, Option.bind_some, Option.bind_none, Option.map_some, Option.map_none, Nat.reduceSub, Nat.reduceAdd, Nat.reduceEqDiff, if_true, if_false, Bool.false_eq_true, reduceIte, Nat.zero_add, fComp, fItems, itemsOf, extOf, wipeE, fEnum, fRng1, fRng2, fSigns, lenD, tupD, lstD, ix0, ix1, ix2, eq_s, ne_s, eq_i, ne_i, add_i, sub_i, in_t2, in_t3, List.length_map, isTupD, gt_i, e1, l1, m6, e2, d6, m2, e, slD, t1, t2, revD, d12, m66, hy]
          | false =>
            refine ⟨z, ?_, gz'⟩
            cases e1 : decide ((0 : Int) < deep) with
            | false => simp only [runB, fSeq, fIf, fRet, fAsg, fB, f1, f2, fA, fA0, fL, fV, fC, fTup, fLst, fNext, on1, on2, gN, gT, gsC, gs0, asB, fAnd, fOr, fBnd, fBor, fNot, fVB, fIte, fAndV, fOrV, notD, negD, fO, fO0, asI, fSl, fPar, List.map_cons, List.map_nil, List.length_cons, List.length_nil, List.reduceReplicate, List.cons_append, List.nil_append, List.append_nil, List.getElem?_cons_zero, List.getElem?_cons_succ, Option.join_some, Option.join_none, List.set_cons_zero, List.set_cons_succ, Option.bind_some, Option.bind_none, Option.map_some, Option.map_none, Nat.reduceSub, Nat.reduceAdd, Nat.reduceEqDiff, if_true, if_false, Bool.false_eq_true, reduceIte, Nat.zero_add, fComp, fItems, itemsOf, extOf, wipeE, fEnum, fRng1, fRng2, fSigns, lenD, tupD, lstD, ix0, ix1, ix2, eq_s, ne_s, eq_i, ne_i, add_i, sub_i, in_t2, in_t3, List.length_map, isTupD, isIntD, gt_i, e1, l1, d6, m2, e, m21, aL, hz]
            | true =>
              have e2 : decide (0 < num % 6) = false := by rw [e1] at hce; simpa using hce
              simp only [runB, fSeq, fIf, fRet, fAsg, fB, f1, f2, fA, fA0, fL, fV, fC, fTup, fLst, fNext, on1, on2, gN, gT, gsC, gs0, asB, fAnd, fOr, fBnd, fBor, fNot, fVB, fIte, fAndV, fOrV, notD, negD, fO, fO0, asI, fSl, fPar, List.map_cons, List.map_nil, List.length_cons, List.length_nil, List.reduceReplicate, List.cons_append, List.nil_append, List.append_nil, List.getElem?_cons_zero, List.getElem?_cons_succ, Option.join_some, Option.join_none, List.set_cons_zero, List.set_cons_succ, Option.bind_some, Option.bind_none, Option.map_some, Option.map_none, Nat.reduceSub, Nat.reduceAdd, Nat.reduceEqDiff, if_true, if_false, Bool.false_eq_true, reduceIte, Nat.zero_add, fComp, fItems, itemsOf, extOf, wipeE, fEnum, fRng1, fRng2, fSigns, lenD, tupD, lstD, ix0, ix1, ix2, eq_s, ne_s, eq_i, ne_i, add_i, sub_i, in_t2, in_t3, List.length_map, isTupD, isIntD, gt_i, e1, l1, m6, e2, d6, m2, e, m21, aL, hz]
/-! ### a drawn text -/
theorem len_app (a b : Str) : (a ++ b).length = a.length + b.length := by
  show (a.cps ++ b.cps).size = _
  rw [Array.size_append]
  rfl
theorem ok_app {a b : Str} (ha : PyData.strOk a = true) (hb : PyData.strOk b = true) : PyData.strOk (a ++ b) = true := by
  simp only [PyData.strOk] at *
  show (a.cps ++ b.cps).all _ = true
  rw [Array.all_append, ha, hb]
  rfl
theorem join_ok : ∀ (l : List Str), (∀ a ∈ l, PyData.strOk a = true ∧ a.length ≤ 1) → PyData.strOk (PySem.Str.join "" l) = true ∧ (PySem.Str.join "" l).length ≤ l.length
  | [], _ => ⟨by decide +kernel, by decide +kernel⟩
  | [a], h => by
    have := h a (by simp)
    exact ⟨this.1, this.2⟩
  | a :: b :: r, h => by
    have h1 := h a (by simp)
    have h2 := join_ok (b :: r) fun x hx => h x (List.mem_cons_of_mem _ hx)
    have e : PySem.Str.join "" (a :: b :: r) = a ++ "" ++ PySem.Str.join "" (b :: r) := rfl
    rw [e]
    refine ⟨ok_app (ok_app h1.1 (by decide +kernel)) h2.1, ?_⟩
    rw [len_app, len_app]
    have : ("" : Str).length = 0 := by decide +kernel
    simp only [List.length_cons] at h2 ⊢
    omega
theorem F_any (num : Int) : ∃ A : Str, F__law_any [.int num, .int 5] = some (.str A) ∧ PyData.canLay0 (.str A) = true ∧ A.length ≤ 10 := by
  have m5 := mod_p (i := num) (j := 5) (by decide)
  have b5 := mod_b num 5 (by decide)
  have hr := rng_1 (m := 1 + num % 5) (by omega) (by omega)
  have cm : ∀ (a b : Option PyData), compL (gN 3) fYes (f2 ixD (fV 2) (f2 modD (f2 fdvD (fL F__law_drawn (fA (fV 0) (fA (f2 addD (fC (.int 70)) (fV 3)) fA0))) (fC (.int 4))) (fC (.int 26)))) [some (.int num), a, some (.str "abcdefghijklmnopqrstuvwxyz"), none] ((List.range (1 + num % 5).toNat).map fun (k : Nat) => PyData.int (k : Int)) = some (((List.range (1 + num % 5).toNat).map fun (k : Nat) => sAt "abcdefghijklmnopqrstuvwxyz" (drawn num (70 + (k : Int)) / 4 % 26)).map PyData.str) := by
    intro a b
    rw [compL_map (e := fun (k : Nat) => PyData.int (k : Int)) (h := fun (k : Nat) => PyData.str (sAt "abcdefghijklmnopqrstuvwxyz" (drawn num (70 + (k : Int)) / 4 % 26))), List.map_map]
    · rfl
    · intro k _
      have b26 := mod_b (drawn num (70 + (k : Int)) / 4) 26 (by decide)
      have hi := ix_str (s := "abcdefghijklmnopqrstuvwxyz") b26.1 b26.2 (by decide +kernel)
      simp only [runB, fSeq, fIf, fRet, fAsg, fB, f1, f2, fA, fA0, fL, fV, fC, fTup, fLst, fNext, on1, on2, gN, gT, gsC, gs0, asB, fAnd, fOr, fBnd, fBor, fNot, fVB, fIte, fAndV, fOrV, notD, negD, fO, fO0, asI, fSl, fPar, List.map_cons, List.map_nil, List.length_cons, List.length_nil, List.reduceReplicate, List.cons_append, List.nil_append, List.append_nil, List.getElem?_cons_zero, List.getElem?_cons_succ, Option.join_some, Option.join_none, List.set_cons_zero, List.set_cons_succ, Option.bind_some, Option.bind_none, Option.map_some, Option.map_none, Nat.reduceSub, Nat.reduceAdd, Nat.reduceEqDiff, if_true, if_false, Bool.false_eq_true, reduceIte, Nat.zero_add, fComp, fItems, itemsOf, extOf, wipeE, fEnum, fRng1, fRng2, fSigns, lenD, tupD, lstD, ix0, ix1, ix2, eq_s, ne_s, eq_i, ne_i, add_i, sub_i, in_t2, in_t3, List.length_map, F_drawn, fdv_p (i := drawn num (70 + (k : Int))) (j := 4) (by decide), mod_p (i := drawn num (70 + (k : Int)) / 4) (j := 26) (by decide), hi]
  have az : ∀ n : Fin 26, PyData.strOk (sAt "abcdefghijklmnopqrstuvwxyz" (n.val : Int)) = true ∧ (sAt "abcdefghijklmnopqrstuvwxyz" (n.val : Int)).length = 1 := by decide +kernel
  have hall : ∀ s ∈ ((List.range (1 + num % 5).toNat).map fun (k : Nat) => sAt "abcdefghijklmnopqrstuvwxyz" (drawn num (70 + (k : Int)) / 4 % 26)), PyData.strOk s = true ∧ s.length = 1 := by
    intro s hs
    obtain ⟨k, _, rfl⟩ := List.mem_map.mp hs
    have b26 := mod_b (drawn num (70 + (k : Int)) / 4) 26 (by decide)
    have := az ⟨(drawn num (70 + (k : Int)) / 4 % 26).toNat, by omega⟩
    simp only [Int.toNat_of_nonneg b26.1] at this
    exact this
  have hlen : ((List.range (1 + num % 5).toNat).map fun (k : Nat) => sAt "abcdefghijklmnopqrstuvwxyz" (drawn num (70 + (k : Int)) / 4 % 26)).length ≤ 5 := by
    simp
    omega
  generalize ((List.range (1 + num % 5).toNat).map fun (k : Nat) => sAt "abcdefghijklmnopqrstuvwxyz" (drawn num (70 + (k : Int)) / 4 % 26)) = ys at cm hall hlen
  have hj : joinD (.str "") (.list (ys.map PyData.str)) = some (.str (Txt.join "" ys)) := by
    have as : asSs (ys.map PyData.str) = some ys := by
      clear hall hlen cm
      induction ys with
      | nil => rfl
      | cons y r ih => simp only [List.map_cons, asSs, ih, Option.map_some]
    simp only [joinD, as, Option.bind_some]
    refine if_pos ?_
    have s1 : (ys.map fun x => x.length).sum ≤ ys.length := by
      clear hlen cm as
      induction ys with
      | nil => simp
      | cons y r ih =>
        have h1 := (hall y (by simp)).2
        have h2 := ih fun s hs => hall s (List.mem_cons_of_mem _ hs)
        simp only [List.map_cons, List.sum_cons, List.length_cons]
        omega
    have : ("" : Str).length = 0 := by decide +kernel
    rw [this]
    omega
  have e : Txt.join "" ys = PySem.Str.join "" ys := by
    show Builtin.Str.glued "" ys = _
    rw [StrLaws.glued_eq_join]
  have hok := join_ok ys fun a ha => ⟨(hall a ha).1, by rw [(hall a ha).2]; exact Nat.le_refl 1⟩
  refine ⟨Txt.join "" ys, ?_, ?_, ?_⟩
  · unfold F__law_any B__law_any
    simp only [runB, fSeq, fIf, fRet, fAsg, fB, f1, f2, fA, fA0, fL, fV, fC, fTup, fLst, fNext, on1, on2, gN, gT, gsC, gs0, asB, fAnd, fOr, fBnd, fBor, fNot, fVB, fIte, fAndV, fOrV, notD, negD, fO, fO0, asI, fSl, fPar, List.map_cons, List.map_nil, List.length_cons, List.length_nil, List.reduceReplicate, List.cons_append, List.nil_append, List.append_nil, List.getElem?_cons_zero, List.getElem?_cons_succ, Option.join_some, Option.join_none, List.set_cons_zero, List.set_cons_succ, Option.bind_some, Option.bind_none, Option.map_some, Option.map_none, Nat.reduceSub, Nat.reduceAdd, Nat.reduceEqDiff, if_true, if_false, Bool.false_eq_true, reduceIte, Nat.zero_add, fComp, fItems, itemsOf, extOf, wipeE, fEnum, fRng1, fRng2, fSigns, lenD, tupD, lstD, ix0, ix1, ix2, eq_s, ne_s, eq_i, ne_i, add_i, sub_i, in_t2, in_t3, List.length_map, m5, hr, cm _ none, hj]
  · rw [e]
    simp only [PyData.canLay0]
    exact hok.1
  · rw [e]
    omega
def edgeB : En → Out :=
  (fIf (fB (f2 neP (fL F_is_task (fA (fV 9) fA0)) (fL F__law_is_task (fA (fV 9) (fA (fC (.int 4)) fA0))))) (fRet (fC (.bool false))) fNext)
def tailB : En → Out :=
  (fSeq (fAsg (fL F__law_is_task (fA (fV 2) (fA (fC (.int 4)) fA0))) (gN 10)) (fSeq (fAsg (fL F_is_task (fA (fV 2) fA0)) (gN 11)) (fSeq (fIf (fOr (fNot (fB (f1 (fun d => some (.bool (isBoolD d))) (fV 11)))) (fB (f2 neP (fV 11) (fV 10)))) (fRet (fC (.bool false))) fNext) (fRet (fOrV (f1 notD (fV 10)) (f2 eqP (fL F_size (fA (fV 2) fA0)) (fL F__law_size (fA (fV 2) fA0))))))))
def midB (f : En → Out) : En → Out :=
  (fSeq (fAsg (fL F__law_mixed (fA (fV 0) (fA (fC (.int 3)) fA0))) (gN 3))
  (fSeq (fAsg (fTup (fA (fC (.str "do")) (fA (fSl (fC (.str "abcdefg")) fO0 (fO (f2 addD (fC (.int 4)) (f2 modD (fV 3) (fC (.int 3)))))) (fA (f2 addD (fC (.int 3)) (f2 modD (f2 fdvD (fV 3) (fC (.int 4))) (fC (.int 3)))) fA0)))) (gN 4))
  (fSeq (fAsg (fTup (fA (fC (.str "do")) (fA (fC (.str "a")) (fA (fC (.int 1)) fA0)))) (gN 5))
  (fSeq (fAsg (fLst (fA (fV 4) (fA (fTup (fA (fC (.str "within")) (fA (f2 addD (fC (.int 8)) (f2 modD (f2 fdvD (fV 3) (fC (.int 16))) (fC (.int 3)))) (fA (fV 5) fA0)))) (fA (fTup (fA (fC (.str "without")) (fA (fSl (fC (.str "abcdefg")) fO0 (fO (f2 addD (fC (.int 4)) (f2 modD (fV 3) (fC (.int 3)))))) (fA (fV 5) fA0)))) fA0)))) (gN 6))
  (fSeq (fFor (fItems (fTup (fA (fC (.str "all")) (fA (fC (.str "any")) (fA (fC (.str "then")) fA0))))) (gN 7) (fApp 6 (fTup (fA (fV 7) (fA (f2 mulD (fTup (fA (fV 5) fA0)) (f2 addD (fC (.int 1)) (f2 modD (f2 fdvD (fV 3) (fC (.int 64))) (fC (.int 4))))) fA0)))))
  (fSeq (fAsg (fLst (fA (fTup fA0) (fA (fLst fA0) (fA (fC (.int 5)) (fA (fC .none) (fA (fC (.str "do")) (fA (fLst (fA (fC (.str "do")) (fA (fC (.str "a")) (fA (fC (.int 1)) fA0)))) (fA (fTup (fA (fC (.str "do")) fA0)) (fA (fTup (fA (fC (.str "all")) (fA (fLst (fA (fV 5) fA0)) fA0))) (fA (fTup (fA (fC (.str "all")) (fA (fTup (fA (fC (.int 5)) fA0)) fA0))) (fA (fTup (fA (fC (.str "do")) (fA (fC (.str "a")) (fA (fC (.bool true)) fA0)))) fA0))))))))))) (gN 8))
  (fSeq (fAsg (f2 addD (fV 8) (fLst (fA (fTup (fA (fC (.str "within")) (fA (fC (.bool true)) (fA (fV 5) fA0)))) (fA (fTup (fA (fC (.str "without")) (fA (fC (.int 5)) (fA (fV 5) fA0)))) (fA (fTup (fA (fC (.str "all")) (fA (fTup (fA (fTup fA0) fA0)) fA0))) (fA (fTup (fA (fC (.str "within")) (fA (fC (.int 2)) (fA (fLst fA0) fA0)))) fA0)))))) (gN 8))
  (fSeq (fApp 6 (f2 ixD (fV 8) (f2 modD (f2 fdvD (fV 3) (fC (.int 256))) (fC (.int 14))))) f))))))))
theorem law_eq : B_law = (fSeq (fAsg (fL F__law_mixed (fA (fV 0) (fA (fC (.int 0)) fA0))) (gN 1)) (fSeq (fAsg (fL F__law_task (fA (fL F__law_mixed (fA (fV 0) (fA (fC (.int 1)) fA0))) (fA (f2 addD (fC (.int 1)) (f2 modD (f2 fdvD (fV 1) (fC (.int 8))) (fC (.int 5)))) (fA (fC (.int 4)) fA0)))) (gN 2)) (fSeq (fAsg (fL F__law_swapped (fA (fV 2) (fA (fDict ["b"] (fA (fL F__law_any (fA (fL F__law_mixed (fA (fV 0) (fA (fC (.int 7)) fA0))) (fA (fC (.int 5)) fA0))) fA0)) fA0))) (gN 2)) (fSeq (fIf (fB (f2 gtD (f2 modD (fV 1) (fC (.int 3))) (fC (.int 0)))) (fAsg (fL F__law_spoilt (fA (fV 2) (fA (fL F__law_mixed (fA (fV 0) (fA (fC (.int 2)) fA0))) (fA (f2 modD (f2 fdvD (fV 1) (fC (.int 64))) (fC (.int 7))) fA0)))) (gN 2)) fNext) (midB (fSeq (fFor (fItems (fV 6)) (gN 9) edgeB) tailB)))))) := rfl
theorem edges_ok (a0 a1 a2 a3 a4 a5 a6 a7 a8 a10 a11 : Option PyData) : ∀ (l : List PyData) (z : Option PyData), (∀ d ∈ l, gd 20 d) → ∃ z', loopF (gN 9) edgeB l [a0, a1, a2, a3, a4, a5, a6, a7, a8, z, a10, a11] = .nx [a0, a1, a2, a3, a4, a5, a6, a7, a8, z', a10, a11]
  | [], z, _ => ⟨z, rfl⟩
  | d :: l, z, h => by
    have hd := h d List.mem_cons_self
    obtain ⟨z', ih⟩ := edges_ok a0 a1 a2 a3 a4 a5 a6 a7 a8 a10 a11 l (some d) fun e he => h e (List.mem_cons_of_mem _ he)
    refine ⟨z', ?_⟩
    have nb : ∀ b : Bool, neP (.bool b) (.bool b) = some (.bool false) := fun b => by cases b <;> rfl
    have key : edgeB [a0, a1, a2, a3, a4, a5, a6, a7, a8, some d, a10, a11] = .nx [a0, a1, a2, a3, a4, a5, a6, a7, a8, some d, a10, a11] := by
      unfold edgeB
      simp only [runB, fSeq, fIf, fRet, fAsg, fB, f1, f2, fA, fA0, fL, fV, fC, fTup, fLst, fNext, on1, on2, gN, gT, gsC, gs0, asB, fAnd, fOr, fBnd, fBor, fNot, fVB, fIte, fAndV, fOrV, notD, negD, fO, fO0, asI, fSl, fPar, List.map_cons, List.map_nil, List.length_cons, List.length_nil, List.reduceReplicate, List.cons_append, List.nil_append, List.append_nil, List.getElem?_cons_zero, List.getElem?_cons_succ, Option.join_some, Option.join_none, List.set_cons_zero, List.set_cons_succ, Option.bind_some, Option.bind_none, Option.map_some, Option.map_none, Nat.reduceSub, Nat.reduceAdd, Nat.reduceEqDiff, if_true, if_false, Bool.false_eq_true, reduceIte, Nat.zero_add, fComp, fItems, itemsOf, extOf, wipeE, fEnum, fRng1, fRng2, fSigns, lenD, tupD, lstD, ix0, ix1, ix2, eq_s, ne_s, eq_i, ne_i, add_i, sub_i, in_t2, in_t3, List.length_map, F_tk hd, F_ltk (by omega) hd, nb]
    simp only [loopF, runB, fSeq, fIf, fRet, fAsg, fB, f1, f2, fA, fA0, fL, fV, fC, fTup, fLst, fNext, on1, on2, gN, gT, gsC, gs0, asB, fAnd, fOr, fBnd, fBor, fNot, fVB, fIte, fAndV, fOrV, notD, negD, fO, fO0, asI, fSl, fPar, List.map_cons, List.map_nil, List.length_cons, List.length_nil, List.reduceReplicate, List.cons_append, List.nil_append, List.append_nil, List.getElem?_cons_zero, List.getElem?_cons_succ, Option.join_some, Option.join_none, List.set_cons_zero, List.set_cons_succ, Option.bind_some, Option.bind_none, Option.map_some, Option.map_none, Nat.reduceSub, Nat.reduceAdd, Nat.reduceEqDiff, if_true, if_false, Bool.false_eq_true, reduceIte, Nat.zero_add, fComp, fItems, itemsOf, extOf, wipeE, fEnum, fRng1, fRng2, fSigns, lenD, tupD, lstD, ix0, ix1, ix2, eq_s, ne_s, eq_i, ne_i, add_i, sub_i, in_t2, in_t3, List.length_map, key, ih]
theorem tail_ok {d : PyData} (h : gd 20 d) (a0 a1 a3 a4 a5 a6 a7 a8 a9 : Option PyData) : tailB [a0, a1, some d, a3, a4, a5, a6, a7, a8, a9, none, none] = .rt (.bool true) := by
  have nb : ∀ b : Bool, neP (.bool b) (.bool b) = some (.bool false) := fun b => by cases b <;> rfl
  have bb : ∀ b : Bool, isBoolD (.bool b) = true := fun _ => rfl
  unfold tailB
  cases e : tk 4 d with
  | false => simp only [runB, fSeq, fIf, fRet, fAsg, fB, f1, f2, fA, fA0, fL, fV, fC, fTup, fLst, fNext, on1, on2, gN, gT, gsC, gs0, asB, fAnd, fOr, fBnd, fBor, fNot, fVB, fIte, fAndV, fOrV, notD, negD, fO, fO0, asI, fSl, fPar, List.map_cons, List.map_nil, List.length_cons, List.length_nil, List.reduceReplicate, List.cons_append, List.nil_append, List.append_nil, List.getElem?_cons_zero, List.getElem?_cons_succ, Option.join_some, Option.join_none, List.set_cons_zero, List.set_cons_succ, Option.bind_some, Option.bind_none, Option.map_some, Option.map_none, Nat.reduceSub, Nat.reduceAdd, Nat.reduceEqDiff, if_true, if_false, Bool.false_eq_true, reduceIte, Nat.zero_add, fComp, fItems, itemsOf, extOf, wipeE, fEnum, fRng1, fRng2, fSigns, lenD, tupD, lstD, ix0, ix1, ix2, eq_s, ne_s, eq_i, ne_i, add_i, sub_i, in_t2, in_t3, List.length_map, F_tk h, F_ltk (by omega) h, nb, bb, Bool.not_true, Bool.not_false, e]
  | true =>
    obtain ⟨t, rfl, ht⟩ := tk_enc 4 20 d h e
    have s1 : F_size [enc t] = some (.int (siz t : Int)) := F_siz (by omega) ht
    have s2 : F__law_size [enc t] = some (.int (siz t : Int)) := G_lsiz 4 24 t ht (by omega)
    simp only [runB, fSeq, fIf, fRet, fAsg, fB, f1, f2, fA, fA0, fL, fV, fC, fTup, fLst, fNext, on1, on2, gN, gT, gsC, gs0, asB, fAnd, fOr, fBnd, fBor, fNot, fVB, fIte, fAndV, fOrV, notD, negD, fO, fO0, asI, fSl, fPar, List.map_cons, List.map_nil, List.length_cons, List.length_nil, List.reduceReplicate, List.cons_append, List.nil_append, List.append_nil, List.getElem?_cons_zero, List.getElem?_cons_succ, Option.join_some, Option.join_none, List.set_cons_zero, List.set_cons_succ, Option.bind_some, Option.bind_none, Option.map_some, Option.map_none, Nat.reduceSub, Nat.reduceAdd, Nat.reduceEqDiff, if_true, if_false, Bool.false_eq_true, reduceIte, Nat.zero_add, fComp, fItems, itemsOf, extOf, wipeE, fEnum, fRng1, fRng2, fSigns, lenD, tupD, lstD, ix0, ix1, ix2, eq_s, ne_s, eq_i, ne_i, add_i, sub_i, in_t2, in_t3, List.length_map, F_tk h, F_ltk (by omega) h, nb, bb, Bool.not_true, Bool.not_false, e, s1, s2, beq_self_eq_true]
theorem some_ones {j : Int} (h1 : 1 ≤ j) (h4 : j ≤ 4) : ∃ es : List PyData, mulD (.tuple [one3]) (.int j) = some (.tuple es) ∧ es.length ≤ 20 ∧ ∀ e ∈ es, e = one3 := by
  have : j = 1 ∨ j = 2 ∨ j = 3 ∨ j = 4 := by omega
  rcases this with rfl | rfl | rfl | rfl
  · exact ⟨[one3], rfl, by simp, by simp⟩
  · exact ⟨[one3, one3], rfl, by simp, by simp⟩
  · exact ⟨[one3, one3, one3], rfl, by simp, by simp⟩
  · exact ⟨[one3, one3, one3, one3], rfl, by simp, by simp⟩
theorem some_name {j : Int} (h1 : 0 ≤ j) (h4 : j < 3) : ∃ s : Str, slD (.str "abcdefg") none (some (4 + j)) = some (.str s) ∧ gd 1 (.str s) := by
  have : j = 0 ∨ j = 1 ∨ j = 2 := by omega
  rcases this with rfl | rfl | rfl
  · exact ⟨cutS "abcdefg" none (some 4), rfl, by decide +kernel, by decide +kernel⟩
  · exact ⟨cutS "abcdefg" none (some 5), rfl, by decide +kernel, by decide +kernel⟩
  · exact ⟨cutS "abcdefg" none (some 6), rfl, by decide +kernel, by decide +kernel⟩
def O10 : List PyData := [.tuple [], .list [], .int 5, .none, .str "do", .list [.str "do", .str "a", .int 1], .tuple [.str "do"], .tuple [.str "all", .list [.tuple [.str "do", .str "a", .int 1]]], .tuple [.str "all", .tuple [.int 5]], .tuple [.str "do", .str "a", .bool true]]
def O4 : List PyData := [.tuple [.str "within", .bool true, .tuple [.str "do", .str "a", .int 1]], .tuple [.str "without", .int 5, .tuple [.str "do", .str "a", .int 1]], .tuple [.str "all", .tuple [.tuple []]], .tuple [.str "within", .int 2, .list []]]
theorem add_O : addD (.list O10) (.list O4) = some (.list (O10 ++ O4)) := by
  simp only [addD]
  exact if_pos (by decide)
theorem gd_1 {k : Nat} {a : PyData} (ha : gd k a) : gd (k + 1) (.tuple [a]) := ⟨by simp, fun d hd => by rw [List.mem_singleton.mp hd]; exact ha⟩
theorem gd_w {k : Nat} (w : Str) (h1 : PyData.canLay0 (.str w) = true) (h2 : w.length ≤ 1000) : gd (k + 1) (.str w) := ⟨h1, h2⟩
theorem gd_O : ∀ d ∈ O10 ++ O4, gd 10 d := by
  have wdo : ∀ k, gd (k + 1) (.str "do") := fun k => gd_w _ (by decide +kernel) (by decide +kernel)
  have wa : ∀ k, gd (k + 1) (.str "a") := fun k => gd_w _ (by decide +kernel) (by decide +kernel)
  have wall : ∀ k, gd (k + 1) (.str "all") := fun k => gd_w _ (by decide +kernel) (by decide +kernel)
  have wi : ∀ k, gd (k + 1) (.str "within") := fun k => gd_w _ (by decide +kernel) (by decide +kernel)
  have wo : ∀ k, gd (k + 1) (.str "without") := fun k => gd_w _ (by decide +kernel) (by decide +kernel)
  have w1 : ∀ k, gd (k + 2) (.tuple [.str "do", .str "a", .int 1]) := fun k => gd_one3
  intro d hd
  simp only [O10, O4, List.cons_append, List.nil_append, List.mem_cons, List.not_mem_nil, or_false] at hd
  rcases hd with rfl | rfl | rfl | rfl | rfl | rfl | rfl | rfl | rfl | rfl | rfl | rfl | rfl | rfl
  · exact ⟨by simp, by simp⟩
  · exact ⟨by simp, by simp⟩
  · exact ⟨by decide, by decide⟩
  · trivial
  · exact wdo _
  · exact ⟨by simp, fun d hd => (gd_one3 (k := 8)).2 d hd⟩
  · exact gd_1 (wdo _)
  · exact gd_2 (wall _) ⟨by simp, fun d hd => by rw [List.mem_singleton.mp hd]; exact w1 _⟩
  · exact gd_2 (wall _) (gd_1 ⟨by decide, by decide⟩)
  · exact gd_3 (wdo _) (wa _) trivial
  · exact gd_3 (wi _) trivial (w1 _)
  · exact gd_3 (wo _) ⟨by decide, by decide⟩ (w1 _)
  · exact gd_2 (wall _) (gd_1 ⟨by simp, by simp⟩)
  · exact gd_3 (wi _) ⟨by decide, by decide⟩ ⟨by simp, by simp⟩
theorem mid_ok (ns : List Int) (f : En → Out) (v1 v2 : Option PyData) : ∃ (a3 a4 a5 a7 a8 : Option PyData) (l : List PyData), midB f [some (scr ns), v1, v2, none, none, none, none, none, none, none, none, none] = f [some (scr ns), v1, v2, a3, a4, a5, some (.list l), a7, a8, none, none, none] ∧ ∀ d ∈ l, gd 20 d := by
  have fm := F_mixed ns 3 (by decide)
  generalize mixed ns 3 = z at fm
  have b3 := mod_b z 3 (by decide)
  have b43 := mod_b (z / 4) 3 (by decide)
  have b16 := mod_b (z / 16) 3 (by decide)
  have b64 := mod_b (z / 64) 4 (by decide)
  have b256 := mod_b (z / 256) 14 (by decide)
  obtain ⟨s, hs, gs⟩ := some_name b3.1 b3.2
  obtain ⟨es, he, gl, ge⟩ := some_ones (j := 1 + z / 64 % 4) (by omega) (by omega)
  obtain ⟨o, ho, go⟩ := ixg (K := 10) (L := O10 ++ O4) (j := z / 256 % 14) b256.1 (by simpa [O10, O4] using b256.2) gd_O
  have he' : mulD (.tuple [.tuple [.str "do", .str "a", .int 1]]) (.int (1 + z / 64 % 4)) = some (.tuple es) := he
  have aO : addD (.list [.tuple [], .list [], .int 5, .none, .str "do", .list [.str "do", .str "a", .int 1], .tuple [.str "do"], .tuple [.str "all", .list [.tuple [.str "do", .str "a", .int 1]]], .tuple [.str "all", .tuple [.int 5]], .tuple [.str "do", .str "a", .bool true]]) (.list [.tuple [.str "within", .bool true, .tuple [.str "do", .str "a", .int 1]], .tuple [.str "without", .int 5, .tuple [.str "do", .str "a", .int 1]], .tuple [.str "all", .tuple [.tuple []]], .tuple [.str "within", .int 2, .list []]]) = some (.list (O10 ++ O4)) := add_O
  have ses : gd 19 (.tuple es) := ⟨gl, fun e hq => by rw [ge e hq]; exact gd_one3⟩
  have big : ∀ n : Nat, n ≤ 20 → (n < sizeLine) = True := fun n hn => eq_true (Nat.lt_of_le_of_lt hn (by decide))
  refine ⟨some (.int z), some (.tuple [.str "do", .str s, .int (3 + z / 4 % 3)]), some (.tuple [.str "do", .str "a", .int 1]), some (.str "then"), some (.list (O10 ++ O4)), [.tuple [.str "do", .str s, .int (3 + z / 4 % 3)], .tuple [.str "within", .int (8 + z / 16 % 3), .tuple [.str "do", .str "a", .int 1]], .tuple [.str "without", .str s, .tuple [.str "do", .str "a", .int 1]], .tuple [.str "all", .tuple es], .tuple [.str "any", .tuple es], .tuple [.str "then", .tuple es], o], ?_, ?_⟩
  · unfold midB
    simp only [runB, fSeq, fIf, fRet, fAsg, fB, f1, f2, fA, fA0, fL, fV, fC, fTup, fLst, fNext, on1, on2, gN, gT, gsC, gs0, asB, fAnd, fOr, fBnd, fBor, fNot, fVB, fIte, fAndV, fOrV, notD, negD, fO, fO0, asI, fSl, fPar, List.map_cons, List.map_nil, List.length_cons, List.length_nil, List.reduceReplicate, List.cons_append, List.nil_append, List.append_nil, List.getElem?_cons_zero, List.getElem?_cons_succ, Option.join_some, Option.join_none, List.set_cons_zero, List.set_cons_succ, Option.bind_some, Option.bind_none, Option.map_some, Option.map_none, Nat.reduceSub, Nat.reduceAdd, Nat.reduceEqDiff, if_true, if_false, Bool.false_eq_true, reduceIte, Nat.zero_add, fComp, fItems, itemsOf, extOf, wipeE, fEnum, fRng1, fRng2, fSigns, lenD, tupD, lstD, ix0, ix1, ix2, eq_s, ne_s, eq_i, ne_i, add_i, sub_i, in_t2, in_t3, List.length_map, fm, mod_p (i := z) (j := 3) (by decide), fdv_p (i := z) (j := 4) (by decide), mod_p (i := z / 4) (j := 3) (by decide), fdv_p (i := z) (j := 16) (by decide), mod_p (i := z / 16) (j := 3) (by decide), fdv_p (i := z) (j := 64) (by decide), mod_p (i := z / 64) (j := 4) (by decide), fdv_p (i := z) (j := 256) (by decide), mod_p (i := z / 256) (j := 14) (by decide), hs, he', aO, ho, fFor, loopF, fApp, big 3 (by decide), big 4 (by decide), big 5 (by decide), big 6 (by decide)]
  · have w1 : ∀ k, gd (k + 2) (.tuple [.str "do", .str "a", .int 1]) := fun k => gd_one3
    have gs' : ∀ k, gd (k + 1) (.str s) := fun k => gd_le (by omega) gs
    intro d hd
    simp only [List.mem_cons, List.not_mem_nil, or_false] at hd
    rcases hd with rfl | rfl | rfl | rfl | rfl | rfl | rfl
    · exact gd_3 (gd_w _ (by decide +kernel) (by decide +kernel)) (gs' _) ⟨by omega, by omega⟩
    · exact gd_3 (gd_w _ (by decide +kernel) (by decide +kernel)) ⟨by omega, by omega⟩ (w1 _)
    · exact gd_3 (gd_w _ (by decide +kernel) (by decide +kernel)) (gs' _) (w1 _)
    · exact gd_2 (gd_w _ (by decide +kernel) (by decide +kernel)) ses
    · exact gd_2 (gd_w _ (by decide +kernel) (by decide +kernel)) ses
    · exact gd_2 (gd_w _ (by decide +kernel) (by decide +kernel)) ses
    · exact gd_le (by omega) go
theorem law_true (ns : List Int) (h : ns.length ≤ 63) : F_law [scr ns] = some (.bool true) := by
  have mx0 := F_mixed ns 0 (by decide)
  have mx1 := F_mixed ns 1 (by decide)
  have mx2 := F_mixed ns 2 (by decide)
  have mx7 := F_mixed ns 7 (by decide)
  generalize mixed ns 0 = num at mx0
  have b5 := mod_b (num / 8) 5 (by decide)
  have b7 := mod_b (num / 64) 7 (by decide)
  have e1 : 1 + num / 8 % 5 = (((num / 8 % 5).toNat : Nat) : Int) + 1 := by omega
  have hk : (num / 8 % 5).toNat ≤ 4 := by omega
  have ftk : F__law_task [.int (mixed ns 1), .int (((num / 8 % 5).toNat : Int) + 1), .int 4] = some (enc (tsk 4 (num / 8 % 5).toNat (mixed ns 1))) := F_task (by decide) (by omega) _
  have hr : raw 10 (enc (tsk 4 (num / 8 % 5).toNat (mixed ns 1))) := raw_le (by omega) (raw_tsk _ _)
  obtain ⟨A, hA, gA1, gA2⟩ := F_any (mixed ns 7)
  obtain ⟨d, hd, gd1⟩ := G_swap ⟨gA1, gA2⟩ 10 24 _ hr (by omega)
  have hd' : F__law_swapped [enc (tsk 4 (num / 8 % 5).toNat (mixed ns 1)), .dict [(.str "b", .str A)]] = some d := hd
  have dct : ∀ (ρ : En) (g : En → Option (List PyData)), g ρ = some [.str A] → fDict ["b"] g ρ = some (.dict [(.str "b", .str A)]) := by
    intro ρ g hg
    simp only [fDict, hg, Option.map_some]
    rfl
  obtain ⟨d2, hd2, gd2⟩ := G_spoil 10 24 d (mixed ns 2) (num / 64 % 7).toNat gd1 (by omega)
  rw [Int.toNat_of_nonneg b7.1] at hd2
  have hd2' : F__law_spoilt [d, .int (mixed ns 2), .int (num / 64 % 7)] = some d2 := hd2
  have fin : ∀ e : PyData, gd 20 e → midB (fSeq (fFor (fItems (fV 6)) (gN 9) edgeB) tailB) [some (scr ns), some (.int num), some e, none, none, none, none, none, none, none, none, none] = .rt (.bool true) := by
    intro e he
    obtain ⟨a3, a4, a5, a7, a8, l, hm, hl⟩ := mid_ok ns (fSeq (fFor (fItems (fV 6)) (gN 9) edgeB) tailB) (some (.int num)) (some e)
    rw [hm]
    obtain ⟨z', hz⟩ := edges_ok (some (scr ns)) (some (.int num)) (some e) a3 a4 a5 (some (.list l)) a7 a8 none none l none hl
    simp only [runB, fSeq, fIf, fRet, fAsg, fB, f1, f2, fA, fA0, fL, fV, fC, fTup, fLst, fNext, on1, on2, gN, gT, gsC, gs0, asB, fAnd, fOr, fBnd, fBor, fNot, fVB, fIte, fAndV, fOrV, notD, negD, fO, fO0, asI, fSl, fPar, List.map_cons, List.map_nil, List.length_cons, List.length_nil, List.reduceReplicate, List.cons_append, List.nil_append, List.append_nil, List.getElem?_cons_zero, List.getElem?_cons_succ, Option.join_some, Option.join_none, List.set_cons_zero, List.set_cons_succ, Option.bind_some, Option.bind_none, Option.map_some, Option.map_none, Nat.reduceSub, Nat.reduceAdd, Nat.reduceEqDiff, if_true, if_false, Bool.false_eq_true, reduceIte, Nat.zero_add, fComp, fItems, itemsOf, extOf, wipeE, fEnum, fRng1, fRng2, fSigns, lenD, tupD, lstD, ix0, ix1, ix2, eq_s, ne_s, eq_i, ne_i, add_i, sub_i, in_t2, in_t3, List.length_map, fFor, hz]
    rw [tail_ok he]
  unfold F_law
  rw [law_eq]
  by_cases hc : decide (0 < num % 3) = true
  · have q := fin d2 (gd_le (by omega) gd2)
    simp only [runB, fSeq, fIf, fRet, fAsg, fB, f1, f2, fA, fA0, fL, fV, fC, fTup, fLst, fNext, on1, on2, gN, gT, gsC, gs0, asB, fAnd, fOr, fBnd, fBor, fNot, fVB, fIte, fAndV, fOrV, notD, negD, fO, fO0, asI, fSl, fPar, List.map_cons, List.map_nil, List.length_cons, List.length_nil, List.reduceReplicate, List.cons_append, List.nil_append, List.append_nil, List.getElem?_cons_zero, List.getElem?_cons_succ, Option.join_some, Option.join_none, List.set_cons_zero, List.set_cons_succ, Option.bind_some, Option.bind_none, Option.map_some, Option.map_none, Nat.reduceSub, Nat.reduceAdd, Nat.reduceEqDiff, if_true, if_false, Bool.false_eq_true, reduceIte, Nat.zero_add, fComp, fItems, itemsOf, extOf, wipeE, fEnum, fRng1, fRng2, fSigns, lenD, tupD, lstD, ix0, ix1, ix2, eq_s, ne_s, eq_i, ne_i, add_i, sub_i, in_t2, in_t3, List.length_map, fDict, List.zip_cons_cons, List.zip_nil_left, mx0, mx1, mx2, mx7, fdv_p (i := num) (j := 8) (by decide), mod_p (i := num / 8) (j := 5) (by decide), e1, ftk, hA, hd', mod_p (i := num) (j := 3) (by decide), gt_i, hc, fdv_p (i := num) (j := 64) (by decide), mod_p (i := num / 64) (j := 7) (by decide), hd2', q]
  · have hc' : decide (0 < num % 3) = false := by simpa using hc
    have q := fin d (gd_le (by omega) (raw_gd gd1))
    simp only [runB, fSeq, fIf, fRet, fAsg, fB, f1, f2, fA, fA0, fL, fV, fC, fTup, fLst, fNext, on1, on2, gN, gT, gsC, gs0, asB, fAnd, fOr, fBnd, fBor, fNot, fVB, fIte, fAndV, fOrV, notD, negD, fO, fO0, asI, fSl, fPar, List.map_cons, List.map_nil, List.length_cons, List.length_nil, List.reduceReplicate, List.cons_append, List.nil_append, List.append_nil, List.getElem?_cons_zero, List.getElem?_cons_succ, Option.join_some, Option.join_none, List.set_cons_zero, List.set_cons_succ, Option.bind_some, Option.bind_none, Option.map_some, Option.map_none, Nat.reduceSub, Nat.reduceAdd, Nat.reduceEqDiff, if_true, if_false, Bool.false_eq_true, reduceIte, Nat.zero_add, fComp, fItems, itemsOf, extOf, wipeE, fEnum, fRng1, fRng2, fSigns, lenD, tupD, lstD, ix0, ix1, ix2, eq_s, ne_s, eq_i, ne_i, add_i, sub_i, in_t2, in_t3, List.length_map, fDict, List.zip_cons_cons, List.zip_nil_left, mx0, mx1, mx2, mx7, fdv_p (i := num) (j := 8) (by decide), mod_p (i := num / 8) (j := 5) (by decide), e1, ftk, hA, hd', mod_p (i := num) (j := 3) (by decide), gt_i, hc', q]
end Lk01

namespace Lk01
open PySem PySem.Spec PyProof.Rows L2 Tl Tk
def spLaw (K : PySem.W.Frag) : Sp := fun vs H Q _ => ∃ (a : Addr) (ns : List Int), vs = [.ref a] ∧ SqL K H a (ns.map V.int) ∧ ns.length ≤ 63 ∧ ∀ H', Q (.bl true) H'
theorem ok_end {P : Program} {w : World} {K : PySem.W.Frag} {mg : Str → Option Value} {base : Heap} {A : Ad} (T : Txt K mg A) : FnOk P w K mg base CX0 27 A.a_law A.d_law ["script"] (spLaw K) :=
  (ok_law T).imp fun vs H Q E ⟨a, ns, e, hS, h63, q⟩ => by
    subst e
    exact ⟨H, [scr ns], .bool true, Same.refl _, .cons (.scr hS) .nil, law_true ns h63, fun v H' G' g r => by cases r; exact q H'⟩
theorem all_mk {l : PySem.W.OpenLaw} {w : World} {K : PySem.W.Frag} {h : Heap} {mg : Str → Option Value} {fa : Addr} (X : K.In h) (G : h.Ns mainGlobals mg) (hfa : mg "law" = some (.ref fa))
    {f_0 : Addr} {od_0 an_0 : Option Addr} {sl_0 : Array (Option Value)} {oc_0 kV_0 dc_0 pm_0 cd_0 ct_0 : Value}
    (a_0 : PySem.W.nsIn K mainGlobals "is_name" = some (some (.ref f_0))) (l_0 : K.lookup f_0 = some ⟨oc_0, od_0, .func (PySem.W.fnOf "is_name" "is_name" (defArgs s_is_name) (defBody s_is_name) (defScope s_is_name) .none kV_0 dc_0 pm_0 an_0 cd_0 ct_0), sl_0⟩) (c_0 : PySem.W.codeIn K cd_0 "is_name" = true) (k_0 : PySem.W.keepIn K (.ref f_0) = true)
    {f_1 : Addr} {od_1 an_1 : Option Addr} {sl_1 : Array (Option Value)} {oc_1 kV_1 dc_1 pm_1 cd_1 ct_1 : Value}
    (a_1 : PySem.W.nsIn K mainGlobals "is_whole" = some (some (.ref f_1))) (l_1 : K.lookup f_1 = some ⟨oc_1, od_1, .func (PySem.W.fnOf "is_whole" "is_whole" (defArgs s_is_whole) (defBody s_is_whole) (defScope s_is_whole) .none kV_1 dc_1 pm_1 an_1 cd_1 ct_1), sl_1⟩) (c_1 : PySem.W.codeIn K cd_1 "is_whole" = true) (k_1 : PySem.W.keepIn K (.ref f_1) = true)
    {f_2 : Addr} {od_2 an_2 : Option Addr} {sl_2 : Array (Option Value)} {oc_2 kV_2 dc_2 pm_2 cd_2 ct_2 : Value}
    (a_2 : PySem.W.nsIn K mainGlobals "is_task_to" = some (some (.ref f_2))) (l_2 : K.lookup f_2 = some ⟨oc_2, od_2, .func (PySem.W.fnOf "is_task_to" "is_task_to" (defArgs s_is_task_to) (defBody s_is_task_to) (defScope s_is_task_to) .none kV_2 dc_2 pm_2 an_2 cd_2 ct_2), sl_2⟩) (c_2 : PySem.W.codeIn K cd_2 "is_task_to" = true) (k_2 : PySem.W.keepIn K (.ref f_2) = true)
    {f_3 : Addr} {od_3 an_3 : Option Addr} {sl_3 : Array (Option Value)} {oc_3 kV_3 dc_3 pm_3 cd_3 ct_3 : Value}
    (a_3 : PySem.W.nsIn K mainGlobals "is_task" = some (some (.ref f_3))) (l_3 : K.lookup f_3 = some ⟨oc_3, od_3, .func (PySem.W.fnOf "is_task" "is_task" (defArgs s_is_task) (defBody s_is_task) (defScope s_is_task) .none kV_3 dc_3 pm_3 an_3 cd_3 ct_3), sl_3⟩) (c_3 : PySem.W.codeIn K cd_3 "is_task" = true) (k_3 : PySem.W.keepIn K (.ref f_3) = true)
    {f_4 : Addr} {od_4 an_4 : Option Addr} {sl_4 : Array (Option Value)} {oc_4 kV_4 dc_4 pm_4 cd_4 ct_4 : Value}
    (a_4 : PySem.W.nsIn K mainGlobals "tasks_in" = some (some (.ref f_4))) (l_4 : K.lookup f_4 = some ⟨oc_4, od_4, .func (PySem.W.fnOf "tasks_in" "tasks_in" (defArgs s_tasks_in) (defBody s_tasks_in) (defScope s_tasks_in) .none kV_4 dc_4 pm_4 an_4 cd_4 ct_4), sl_4⟩) (c_4 : PySem.W.codeIn K cd_4 "tasks_in" = true) (k_4 : PySem.W.keepIn K (.ref f_4) = true)
    {f_5 : Addr} {od_5 an_5 : Option Addr} {sl_5 : Array (Option Value)} {oc_5 kV_5 dc_5 pm_5 cd_5 ct_5 : Value}
    (a_5 : PySem.W.nsIn K mainGlobals "size" = some (some (.ref f_5))) (l_5 : K.lookup f_5 = some ⟨oc_5, od_5, .func (PySem.W.fnOf "size" "size" (defArgs s_size) (defBody s_size) (defScope s_size) .none kV_5 dc_5 pm_5 an_5 cd_5 ct_5), sl_5⟩) (c_5 : PySem.W.codeIn K cd_5 "size" = true) (k_5 : PySem.W.keepIn K (.ref f_5) = true)
    {f_6 : Addr} {od_6 an_6 : Option Addr} {sl_6 : Array (Option Value)} {oc_6 kV_6 dc_6 pm_6 cd_6 ct_6 : Value}
    (a_6 : PySem.W.nsIn K mainGlobals "_law_cell_at" = some (some (.ref f_6))) (l_6 : K.lookup f_6 = some ⟨oc_6, od_6, .func (PySem.W.fnOf "_law_cell_at" "_law_cell_at" (defArgs s__law_cell_at) (defBody s__law_cell_at) (defScope s__law_cell_at) .none kV_6 dc_6 pm_6 an_6 cd_6 ct_6), sl_6⟩) (c_6 : PySem.W.codeIn K cd_6 "_law_cell_at" = true) (k_6 : PySem.W.keepIn K (.ref f_6) = true)
    {f_7 : Addr} {od_7 an_7 : Option Addr} {sl_7 : Array (Option Value)} {oc_7 kV_7 dc_7 pm_7 cd_7 ct_7 : Value}
    (a_7 : PySem.W.nsIn K mainGlobals "_law_mixed" = some (some (.ref f_7))) (l_7 : K.lookup f_7 = some ⟨oc_7, od_7, .func (PySem.W.fnOf "_law_mixed" "_law_mixed" (defArgs s__law_mixed) (defBody s__law_mixed) (defScope s__law_mixed) .none kV_7 dc_7 pm_7 an_7 cd_7 ct_7), sl_7⟩) (c_7 : PySem.W.codeIn K cd_7 "_law_mixed" = true) (k_7 : PySem.W.keepIn K (.ref f_7) = true)
    {f_8 : Addr} {od_8 an_8 : Option Addr} {sl_8 : Array (Option Value)} {oc_8 kV_8 dc_8 pm_8 cd_8 ct_8 : Value}
    (a_8 : PySem.W.nsIn K mainGlobals "_law_drawn" = some (some (.ref f_8))) (l_8 : K.lookup f_8 = some ⟨oc_8, od_8, .func (PySem.W.fnOf "_law_drawn" "_law_drawn" (defArgs s__law_drawn) (defBody s__law_drawn) (defScope s__law_drawn) .none kV_8 dc_8 pm_8 an_8 cd_8 ct_8), sl_8⟩) (c_8 : PySem.W.codeIn K cd_8 "_law_drawn" = true) (k_8 : PySem.W.keepIn K (.ref f_8) = true)
    {f_9 : Addr} {od_9 an_9 : Option Addr} {sl_9 : Array (Option Value)} {oc_9 kV_9 dc_9 pm_9 cd_9 ct_9 : Value}
    (a_9 : PySem.W.nsIn K mainGlobals "_law_any" = some (some (.ref f_9))) (l_9 : K.lookup f_9 = some ⟨oc_9, od_9, .func (PySem.W.fnOf "_law_any" "_law_any" (defArgs s__law_any) (defBody s__law_any) (defScope s__law_any) .none kV_9 dc_9 pm_9 an_9 cd_9 ct_9), sl_9⟩) (c_9 : PySem.W.codeIn K cd_9 "_law_any" = true) (k_9 : PySem.W.keepIn K (.ref f_9) = true)
    {f_10 : Addr} {od_10 an_10 : Option Addr} {sl_10 : Array (Option Value)} {oc_10 kV_10 dc_10 pm_10 cd_10 ct_10 : Value}
    (a_10 : PySem.W.nsIn K mainGlobals "_law_swapped" = some (some (.ref f_10))) (l_10 : K.lookup f_10 = some ⟨oc_10, od_10, .func (PySem.W.fnOf "_law_swapped" "_law_swapped" (defArgs s__law_swapped) (defBody s__law_swapped) (defScope s__law_swapped) .none kV_10 dc_10 pm_10 an_10 cd_10 ct_10), sl_10⟩) (c_10 : PySem.W.codeIn K cd_10 "_law_swapped" = true) (k_10 : PySem.W.keepIn K (.ref f_10) = true)
    {f_11 : Addr} {od_11 an_11 : Option Addr} {sl_11 : Array (Option Value)} {oc_11 kV_11 dc_11 pm_11 cd_11 ct_11 : Value}
    (a_11 : PySem.W.nsIn K mainGlobals "_law_task" = some (some (.ref f_11))) (l_11 : K.lookup f_11 = some ⟨oc_11, od_11, .func (PySem.W.fnOf "_law_task" "_law_task" (defArgs s__law_task) (defBody s__law_task) (defScope s__law_task) .none kV_11 dc_11 pm_11 an_11 cd_11 ct_11), sl_11⟩) (c_11 : PySem.W.codeIn K cd_11 "_law_task" = true) (k_11 : PySem.W.keepIn K (.ref f_11) = true)
    {f_12 : Addr} {od_12 an_12 : Option Addr} {sl_12 : Array (Option Value)} {oc_12 kV_12 dc_12 pm_12 cd_12 ct_12 : Value}
    (a_12 : PySem.W.nsIn K mainGlobals "_law_deeds" = some (some (.ref f_12))) (l_12 : K.lookup f_12 = some ⟨oc_12, od_12, .func (PySem.W.fnOf "_law_deeds" "_law_deeds" (defArgs s__law_deeds) (defBody s__law_deeds) (defScope s__law_deeds) .none kV_12 dc_12 pm_12 an_12 cd_12 ct_12), sl_12⟩) (c_12 : PySem.W.codeIn K cd_12 "_law_deeds" = true) (k_12 : PySem.W.keepIn K (.ref f_12) = true)
    {f_13 : Addr} {od_13 an_13 : Option Addr} {sl_13 : Array (Option Value)} {oc_13 kV_13 dc_13 pm_13 cd_13 ct_13 : Value}
    (a_13 : PySem.W.nsIn K mainGlobals "_law_is_name" = some (some (.ref f_13))) (l_13 : K.lookup f_13 = some ⟨oc_13, od_13, .func (PySem.W.fnOf "_law_is_name" "_law_is_name" (defArgs s__law_is_name) (defBody s__law_is_name) (defScope s__law_is_name) .none kV_13 dc_13 pm_13 an_13 cd_13 ct_13), sl_13⟩) (c_13 : PySem.W.codeIn K cd_13 "_law_is_name" = true) (k_13 : PySem.W.keepIn K (.ref f_13) = true)
    {f_14 : Addr} {od_14 an_14 : Option Addr} {sl_14 : Array (Option Value)} {oc_14 kV_14 dc_14 pm_14 cd_14 ct_14 : Value}
    (a_14 : PySem.W.nsIn K mainGlobals "_law_from" = some (some (.ref f_14))) (l_14 : K.lookup f_14 = some ⟨oc_14, od_14, .func (PySem.W.fnOf "_law_from" "_law_from" (defArgs s__law_from) (defBody s__law_from) (defScope s__law_from) .none kV_14 dc_14 pm_14 an_14 cd_14 ct_14), sl_14⟩) (c_14 : PySem.W.codeIn K cd_14 "_law_from" = true) (k_14 : PySem.W.keepIn K (.ref f_14) = true)
    {f_15 : Addr} {od_15 an_15 : Option Addr} {sl_15 : Array (Option Value)} {oc_15 kV_15 dc_15 pm_15 cd_15 ct_15 : Value}
    (a_15 : PySem.W.nsIn K mainGlobals "_law_is_task" = some (some (.ref f_15))) (l_15 : K.lookup f_15 = some ⟨oc_15, od_15, .func (PySem.W.fnOf "_law_is_task" "_law_is_task" (defArgs s__law_is_task) (defBody s__law_is_task) (defScope s__law_is_task) .none kV_15 dc_15 pm_15 an_15 cd_15 ct_15), sl_15⟩) (c_15 : PySem.W.codeIn K cd_15 "_law_is_task" = true) (k_15 : PySem.W.keepIn K (.ref f_15) = true)
    {f_16 : Addr} {od_16 an_16 : Option Addr} {sl_16 : Array (Option Value)} {oc_16 kV_16 dc_16 pm_16 cd_16 ct_16 : Value}
    (a_16 : PySem.W.nsIn K mainGlobals "_law_size" = some (some (.ref f_16))) (l_16 : K.lookup f_16 = some ⟨oc_16, od_16, .func (PySem.W.fnOf "_law_size" "_law_size" (defArgs s__law_size) (defBody s__law_size) (defScope s__law_size) .none kV_16 dc_16 pm_16 an_16 cd_16 ct_16), sl_16⟩) (c_16 : PySem.W.codeIn K cd_16 "_law_size" = true) (k_16 : PySem.W.keepIn K (.ref f_16) = true)
    {f_17 : Addr} {od_17 an_17 : Option Addr} {sl_17 : Array (Option Value)} {oc_17 kV_17 dc_17 pm_17 cd_17 ct_17 : Value}
    (a_17 : PySem.W.nsIn K mainGlobals "_law_spoilt" = some (some (.ref f_17))) (l_17 : K.lookup f_17 = some ⟨oc_17, od_17, .func (PySem.W.fnOf "_law_spoilt" "_law_spoilt" (defArgs s__law_spoilt) (defBody s__law_spoilt) (defScope s__law_spoilt) .none kV_17 dc_17 pm_17 an_17 cd_17 ct_17), sl_17⟩) (c_17 : PySem.W.codeIn K cd_17 "_law_spoilt" = true) (k_17 : PySem.W.keepIn K (.ref f_17) = true)
    {f_18 : Addr} {od_18 an_18 : Option Addr} {sl_18 : Array (Option Value)} {oc_18 kV_18 dc_18 pm_18 cd_18 ct_18 : Value}
    (a_18 : PySem.W.nsIn K mainGlobals "law" = some (some (.ref f_18))) (l_18 : K.lookup f_18 = some ⟨oc_18, od_18, .func (PySem.W.fnOf "law" "law" (defArgs s_law) (defBody s_law) (defScope s_law) .none kV_18 dc_18 pm_18 an_18 cd_18 ct_18), sl_18⟩) (c_18 : PySem.W.codeIn K cd_18 "law" = true) (k_18 : PySem.W.keepIn K (.ref f_18) = true)
    (z_isinstance : PySem.W.nsIn K mainGlobals "isinstance" = some none)
    (z_str : PySem.W.nsIn K mainGlobals "str" = some none)
    (z_len : PySem.W.nsIn K mainGlobals "len" = some none)
    (z_all : PySem.W.nsIn K mainGlobals "all" = some none)
    (z_int : PySem.W.nsIn K mainGlobals "int" = some none)
    (z_bool : PySem.W.nsIn K mainGlobals "bool" = some none)
    (z_tuple : PySem.W.nsIn K mainGlobals "tuple" = some none)
    (z_sum : PySem.W.nsIn K mainGlobals "sum" = some none)
    (z_range : PySem.W.nsIn K mainGlobals "range" = some none)
    (z_max : PySem.W.nsIn K mainGlobals "max" = some none)
    (z_list : PySem.W.nsIn K mainGlobals "list" = some none)
    {t_LONGEST : Tok} (x_LONGEST : PySem.W.nsIn K mainGlobals "LONGEST" = some (some (.int 5 t_LONGEST)))
    {t_LETTERS : Tok} (x_LETTERS : PySem.W.nsIn K mainGlobals "LETTERS" = some (some (.str "abcdefghijklmnopqrstuvwxyz" t_LETTERS)))
    {p_GROUPS : Addr} {t_GROUPS t'_GROUPS t2_GROUPS : Tok} {n_GROUPS : Nat} {do_GROUPS : Option Addr} {so_GROUPS : Array (Option Value)} (x_GROUPS : PySem.W.nsIn K mainGlobals "GROUPS" = some (some (.ref p_GROUPS))) (y_GROUPS : K.lookup p_GROUPS = some ⟨.type "tuple", do_GROUPS, .seq #[.str "all" t_GROUPS, .str "any" t'_GROUPS, .str "then" t2_GROUPS] n_GROUPS, so_GROUPS⟩)
    {t_MOST_TASKS : Tok} (x_MOST_TASKS : PySem.W.nsIn K mainGlobals "MOST_TASKS" = some (some (.int 3 t_MOST_TASKS)))
    {t_MOST_OFTEN : Tok} (x_MOST_OFTEN : PySem.W.nsIn K mainGlobals "MOST_OFTEN" = some (some (.int 4 t_MOST_OFTEN)))
    {t_MOST_WITHIN : Tok} (x_MOST_WITHIN : PySem.W.nsIn K mainGlobals "MOST_WITHIN" = some (some (.int 9 t_MOST_WITHIN)))
    {t_DEEPEST : Tok} (x_DEEPEST : PySem.W.nsIn K mainGlobals "DEEPEST" = some (some (.int 4 t_DEEPEST)))
    : ∃ fd : FuncData, (∀ (s : Shared) (v : Value), BindsTo s fd ⟨[v], []⟩ [("script", v)]) ∧ ∀ base : Heap, K.In base → base.Ns mainGlobals mg → FnOk l.prog w K mg base CX0 27 fa fd ["script"] (spLaw K) := by
  have e := hfa.symm.trans (PySem.W.mg_of X G a_18)
  have e2 : f_18 = fa := by injection e with e; injection e with e; exact e.symm
  subst e2
  have F_0 := fun_mk (st := s_is_name) l_0 c_0 k_0
  have F_1 := fun_mk (st := s_is_whole) l_1 c_1 k_1
  have F_2 := fun_mk (st := s_is_task_to) l_2 c_2 k_2
  have F_3 := fun_mk (st := s_is_task) l_3 c_3 k_3
  have F_4 := fun_mk (st := s_tasks_in) l_4 c_4 k_4
  have F_5 := fun_mk (st := s_size) l_5 c_5 k_5
  have F_6 := fun_mk (st := s__law_cell_at) l_6 c_6 k_6
  have F_7 := fun_mk (st := s__law_mixed) l_7 c_7 k_7
  have F_8 := fun_mk (st := s__law_drawn) l_8 c_8 k_8
  have F_9 := fun_mk (st := s__law_any) l_9 c_9 k_9
  have F_10 := fun_mk (st := s__law_swapped) l_10 c_10 k_10
  have F_11 := fun_mk (st := s__law_task) l_11 c_11 k_11
  have F_12 := fun_mk (st := s__law_deeds) l_12 c_12 k_12
  have F_13 := fun_mk (st := s__law_is_name) l_13 c_13 k_13
  have F_14 := fun_mk (st := s__law_from) l_14 c_14 k_14
  have F_15 := fun_mk (st := s__law_is_task) l_15 c_15 k_15
  have F_16 := fun_mk (st := s__law_size) l_16 c_16 k_16
  have F_17 := fun_mk (st := s__law_spoilt) l_17 c_17 k_17
  have F_18 := fun_mk (st := s_law) l_18 c_18 k_18
  refine ⟨PySem.W.fnOf "law" "law" (defArgs s_law) (defBody s_law) (defScope s_law) .none kV_18 dc_18 pm_18 an_18 cd_18 ct_18, fun s v => .of_eq rfl, fun base _ _ => ?_⟩
  have T : Txt K mg ⟨f_0, PySem.W.fnOf "is_name" "is_name" (defArgs s_is_name) (defBody s_is_name) (defScope s_is_name) .none kV_0 dc_0 pm_0 an_0 cd_0 ct_0, f_1, PySem.W.fnOf "is_whole" "is_whole" (defArgs s_is_whole) (defBody s_is_whole) (defScope s_is_whole) .none kV_1 dc_1 pm_1 an_1 cd_1 ct_1, f_2, PySem.W.fnOf "is_task_to" "is_task_to" (defArgs s_is_task_to) (defBody s_is_task_to) (defScope s_is_task_to) .none kV_2 dc_2 pm_2 an_2 cd_2 ct_2, f_3, PySem.W.fnOf "is_task" "is_task" (defArgs s_is_task) (defBody s_is_task) (defScope s_is_task) .none kV_3 dc_3 pm_3 an_3 cd_3 ct_3, f_4, PySem.W.fnOf "tasks_in" "tasks_in" (defArgs s_tasks_in) (defBody s_tasks_in) (defScope s_tasks_in) .none kV_4 dc_4 pm_4 an_4 cd_4 ct_4, f_5, PySem.W.fnOf "size" "size" (defArgs s_size) (defBody s_size) (defScope s_size) .none kV_5 dc_5 pm_5 an_5 cd_5 ct_5, f_6, PySem.W.fnOf "_law_cell_at" "_law_cell_at" (defArgs s__law_cell_at) (defBody s__law_cell_at) (defScope s__law_cell_at) .none kV_6 dc_6 pm_6 an_6 cd_6 ct_6, f_7, PySem.W.fnOf "_law_mixed" "_law_mixed" (defArgs s__law_mixed) (defBody s__law_mixed) (defScope s__law_mixed) .none kV_7 dc_7 pm_7 an_7 cd_7 ct_7, f_8, PySem.W.fnOf "_law_drawn" "_law_drawn" (defArgs s__law_drawn) (defBody s__law_drawn) (defScope s__law_drawn) .none kV_8 dc_8 pm_8 an_8 cd_8 ct_8, f_9, PySem.W.fnOf "_law_any" "_law_any" (defArgs s__law_any) (defBody s__law_any) (defScope s__law_any) .none kV_9 dc_9 pm_9 an_9 cd_9 ct_9, f_10, PySem.W.fnOf "_law_swapped" "_law_swapped" (defArgs s__law_swapped) (defBody s__law_swapped) (defScope s__law_swapped) .none kV_10 dc_10 pm_10 an_10 cd_10 ct_10, f_11, PySem.W.fnOf "_law_task" "_law_task" (defArgs s__law_task) (defBody s__law_task) (defScope s__law_task) .none kV_11 dc_11 pm_11 an_11 cd_11 ct_11, f_12, PySem.W.fnOf "_law_deeds" "_law_deeds" (defArgs s__law_deeds) (defBody s__law_deeds) (defScope s__law_deeds) .none kV_12 dc_12 pm_12 an_12 cd_12 ct_12, f_13, PySem.W.fnOf "_law_is_name" "_law_is_name" (defArgs s__law_is_name) (defBody s__law_is_name) (defScope s__law_is_name) .none kV_13 dc_13 pm_13 an_13 cd_13 ct_13, f_14, PySem.W.fnOf "_law_from" "_law_from" (defArgs s__law_from) (defBody s__law_from) (defScope s__law_from) .none kV_14 dc_14 pm_14 an_14 cd_14 ct_14, f_15, PySem.W.fnOf "_law_is_task" "_law_is_task" (defArgs s__law_is_task) (defBody s__law_is_task) (defScope s__law_is_task) .none kV_15 dc_15 pm_15 an_15 cd_15 ct_15, f_16, PySem.W.fnOf "_law_size" "_law_size" (defArgs s__law_size) (defBody s__law_size) (defScope s__law_size) .none kV_16 dc_16 pm_16 an_16 cd_16 ct_16, f_17, PySem.W.fnOf "_law_spoilt" "_law_spoilt" (defArgs s__law_spoilt) (defBody s__law_spoilt) (defScope s__law_spoilt) .none kV_17 dc_17 pm_17 an_17 cd_17 ct_17, f_18, PySem.W.fnOf "law" "law" (defArgs s_law) (defBody s_law) (defScope s_law) .none kV_18 dc_18 pm_18 an_18 cd_18 ct_18⟩ := {
    F_is_name := F_0
    m_is_name := PySem.W.mg_of X G a_0
    b_is_name := F_0.binds fun _ _ _ _ _ _ us hl => match us, hl with | [_], _ => rfl
    F_is_whole := F_1
    m_is_whole := PySem.W.mg_of X G a_1
    b_is_whole := F_1.binds fun _ _ _ _ _ _ us hl => match us, hl with | [_, _, _], _ => rfl
    F_is_task_to := F_2
    m_is_task_to := PySem.W.mg_of X G a_2
    b_is_task_to := F_2.binds fun _ _ _ _ _ _ us hl => match us, hl with | [_, _], _ => rfl
    F_is_task := F_3
    m_is_task := PySem.W.mg_of X G a_3
    b_is_task := F_3.binds fun _ _ _ _ _ _ us hl => match us, hl with | [_], _ => rfl
    F_tasks_in := F_4
    m_tasks_in := PySem.W.mg_of X G a_4
    b_tasks_in := F_4.binds fun _ _ _ _ _ _ us hl => match us, hl with | [_], _ => rfl
    F_size := F_5
    m_size := PySem.W.mg_of X G a_5
    b_size := F_5.binds fun _ _ _ _ _ _ us hl => match us, hl with | [_], _ => rfl
    F__law_cell_at := F_6
    m__law_cell_at := PySem.W.mg_of X G a_6
    b__law_cell_at := F_6.binds fun _ _ _ _ _ _ us hl => match us, hl with | [_, _], _ => rfl
    F__law_mixed := F_7
    m__law_mixed := PySem.W.mg_of X G a_7
    b__law_mixed := F_7.binds fun _ _ _ _ _ _ us hl => match us, hl with | [_, _], _ => rfl
    F__law_drawn := F_8
    m__law_drawn := PySem.W.mg_of X G a_8
    b__law_drawn := F_8.binds fun _ _ _ _ _ _ us hl => match us, hl with | [_, _], _ => rfl
    F__law_any := F_9
    m__law_any := PySem.W.mg_of X G a_9
    b__law_any := F_9.binds fun _ _ _ _ _ _ us hl => match us, hl with | [_, _], _ => rfl
    F__law_swapped := F_10
    m__law_swapped := PySem.W.mg_of X G a_10
    b__law_swapped := F_10.binds fun _ _ _ _ _ _ us hl => match us, hl with | [_, _], _ => rfl
    F__law_task := F_11
    m__law_task := PySem.W.mg_of X G a_11
    b__law_task := F_11.binds fun _ _ _ _ _ _ us hl => match us, hl with | [_, _, _], _ => rfl
    F__law_deeds := F_12
    m__law_deeds := PySem.W.mg_of X G a_12
    b__law_deeds := F_12.binds fun _ _ _ _ _ _ us hl => match us, hl with | [_, _], _ => rfl
    F__law_is_name := F_13
    m__law_is_name := PySem.W.mg_of X G a_13
    b__law_is_name := F_13.binds fun _ _ _ _ _ _ us hl => match us, hl with | [_], _ => rfl
    F__law_from := F_14
    m__law_from := PySem.W.mg_of X G a_14
    b__law_from := F_14.binds fun _ _ _ _ _ _ us hl => match us, hl with | [_, _, _], _ => rfl
    F__law_is_task := F_15
    m__law_is_task := PySem.W.mg_of X G a_15
    b__law_is_task := F_15.binds fun _ _ _ _ _ _ us hl => match us, hl with | [_, _], _ => rfl
    F__law_size := F_16
    m__law_size := PySem.W.mg_of X G a_16
    b__law_size := F_16.binds fun _ _ _ _ _ _ us hl => match us, hl with | [_], _ => rfl
    F__law_spoilt := F_17
    m__law_spoilt := PySem.W.mg_of X G a_17
    b__law_spoilt := F_17.binds fun _ _ _ _ _ _ us hl => match us, hl with | [_, _, _], _ => rfl
    F_law := F_18
    m_law := PySem.W.mg_of X G a_18
    b_law := F_18.binds fun _ _ _ _ _ _ us hl => match us, hl with | [_], _ => rfl
    z_isinstance := PySem.W.mg_none_of X G z_isinstance
    z_str := PySem.W.mg_none_of X G z_str
    z_len := PySem.W.mg_none_of X G z_len
    z_all := PySem.W.mg_none_of X G z_all
    z_int := PySem.W.mg_none_of X G z_int
    z_bool := PySem.W.mg_none_of X G z_bool
    z_tuple := PySem.W.mg_none_of X G z_tuple
    z_sum := PySem.W.mg_none_of X G z_sum
    z_range := PySem.W.mg_none_of X G z_range
    z_max := PySem.W.mg_none_of X G z_max
    z_list := PySem.W.mg_none_of X G z_list
    c_LONGEST := gc_int (PySem.W.mg_of X G x_LONGEST)
    c_LETTERS := gc_str (PySem.W.mg_of X G x_LETTERS)
    c_GROUPS := gc_tup3 (PySem.W.mg_of X G x_GROUPS) y_GROUPS rfl rfl
    c_MOST_TASKS := gc_int (PySem.W.mg_of X G x_MOST_TASKS)
    c_MOST_OFTEN := gc_int (PySem.W.mg_of X G x_MOST_OFTEN)
    c_MOST_WITHIN := gc_int (PySem.W.mg_of X G x_MOST_WITHIN)
    c_DEEPEST := gc_int (PySem.W.mg_of X G x_DEEPEST) }
  exact ok_end T
theorem walk {l : PySem.W.OpenLaw} {q : Program} {loose : List Str} {XP : (Str → Option Value) → Heap → Prop} {YP : World → Heap → Prop} {d : DefRec} {K : Params → PySem.W.Frag} (hn : l.most = some 63) (hdf : d.params.defaults = [])
    (hY : ∀ (w : World) (h : Heap), YP w h → (K w.params).In h)
    (F : ∀ (w : World) (mg : Str → Option Value) (fa : Addr) (h : Heap), (K w.params).In h → h.Ns mainGlobals mg → mg d.name = some (.ref fa) →
      ∃ fd : FuncData, (∀ (s : Shared) (u : Value), BindsTo s fd ⟨[u], []⟩ [("script", u)]) ∧ ∀ base : Heap, (K w.params).In base → base.Ns mainGlobals mg → FnOk l.prog w (K w.params) mg base CX0 27 fa fd ["script"] (spLaw (K w.params))) :
    PySem.W.WalkO q loose XP YP l.row.toRowW d [] (fun f vs => PySem.call f vs) :=
  L2.walk_of (n := 63) (k := 27) (x := "script") (CX := fun _ => CX0) (sp := fun w => spLaw (K w.params)) hn (by decide) hdf ⟨rfl, by decide, by decide⟩ hY F (fun _ _ a ns hl _ hS => ⟨a, ns, rfl, hS, hl, fun _ => rfl⟩) fun _ _ _ _ _ z => z
end Lk01
open PySem PySem.W PyProof.Rows
set_option maxRecDepth 100000 in
set_option maxHeartbeats 0 in
theorem PySem.Challenge.cw_taletask_k01_tasks_holds : PySem.Challenge.rw_taletask_k01_tasks.Holds := by
  w_on; o_law; k_head; (case hw => w_witness2)
  k_fill
  refine Lk01.walk (l := PySem.Challenge.rw_taletask_k01_tasks) rfl rfl (fun w h Y => PySem.W.kIn_of Y) ?F
  case F =>
    intro w mg fa h KX G hmg
    refine' Lk01.all_mk KX G hmg ?a_0 ?l_0 ?c_0 ?k_0 ?a_1 ?l_1 ?c_1 ?k_1 ?a_2 ?l_2 ?c_2 ?k_2 ?a_3 ?l_3 ?c_3 ?k_3 ?a_4 ?l_4 ?c_4 ?k_4 ?a_5 ?l_5 ?c_5 ?k_5 ?a_6 ?l_6 ?c_6 ?k_6 ?a_7 ?l_7 ?c_7 ?k_7 ?a_8 ?l_8 ?c_8 ?k_8 ?a_9 ?l_9 ?c_9 ?k_9 ?a_10 ?l_10 ?c_10 ?k_10 ?a_11 ?l_11 ?c_11 ?k_11 ?a_12 ?l_12 ?c_12 ?k_12 ?a_13 ?l_13 ?c_13 ?k_13 ?a_14 ?l_14 ?c_14 ?k_14 ?a_15 ?l_15 ?c_15 ?k_15 ?a_16 ?l_16 ?c_16 ?k_16 ?a_17 ?l_17 ?c_17 ?k_17 ?a_18 ?l_18 ?c_18 ?k_18 ?z_isinstance ?z_str ?z_len ?z_all ?z_int ?z_bool ?z_tuple ?z_sum ?z_range ?z_max ?z_list ?x_LONGEST ?x_LETTERS ?x_GROUPS ?y_GROUPS ?x_MOST_TASKS ?x_MOST_OFTEN ?x_MOST_WITHIN ?x_DEEPEST
    (case a_0 => k_is)
    (case l_0 => k_is)
    (case c_0 => k_is)
    (case k_0 => k_is)
    (case a_1 => k_is)
    (case l_1 => k_is)
    (case c_1 => k_is)
    (case k_1 => k_is)
    (case a_2 => k_is)
    (case l_2 => k_is)
    (case c_2 => k_is)
    (case k_2 => k_is)
    (case a_3 => k_is)
    (case l_3 => k_is)
    (case c_3 => k_is)
    (case k_3 => k_is)
    (case a_4 => k_is)
    (case l_4 => k_is)
    (case c_4 => k_is)
    (case k_4 => k_is)
    (case a_5 => k_is)
    (case l_5 => k_is)
    (case c_5 => k_is)
    (case k_5 => k_is)
    (case a_6 => k_is)
    (case l_6 => k_is)
    (case c_6 => k_is)
    (case k_6 => k_is)
    (case a_7 => k_is)
    (case l_7 => k_is)
    (case c_7 => k_is)
    (case k_7 => k_is)
    (case a_8 => k_is)
    (case l_8 => k_is)
    (case c_8 => k_is)
    (case k_8 => k_is)
    (case a_9 => k_is)
    (case l_9 => k_is)
    (case c_9 => k_is)
    (case k_9 => k_is)
    (case a_10 => k_is)
    (case l_10 => k_is)
    (case c_10 => k_is)
    (case k_10 => k_is)
    (case a_11 => k_is)
    (case l_11 => k_is)
    (case c_11 => k_is)
    (case k_11 => k_is)
    (case a_12 => k_is)
    (case l_12 => k_is)
    (case c_12 => k_is)
    (case k_12 => k_is)
    (case a_13 => k_is)
    (case l_13 => k_is)
    (case c_13 => k_is)
    (case k_13 => k_is)
    (case a_14 => k_is)
    (case l_14 => k_is)
    (case c_14 => k_is)
    (case k_14 => k_is)
    (case a_15 => k_is)
    (case l_15 => k_is)
    (case c_15 => k_is)
    (case k_15 => k_is)
    (case a_16 => k_is)
    (case l_16 => k_is)
    (case c_16 => k_is)
    (case k_16 => k_is)
    (case a_17 => k_is)
    (case l_17 => k_is)
    (case c_17 => k_is)
    (case k_17 => k_is)
    (case a_18 => k_is)
    (case l_18 => k_is)
    (case c_18 => k_is)
    (case k_18 => k_is)
    (case z_isinstance => k_is)
    (case z_str => k_is)
    (case z_len => k_is)
    (case z_all => k_is)
    (case z_int => k_is)
    (case z_bool => k_is)
    (case z_tuple => k_is)
    (case z_sum => k_is)
    (case z_range => k_is)
    (case z_max => k_is)
    (case z_list => k_is)
    (case x_LONGEST => k_is)
    (case x_LETTERS => k_is)
    (case x_GROUPS => k_is)
    (case y_GROUPS => k_is)
    (case x_MOST_TASKS => k_is)
    (case x_MOST_OFTEN => k_is)
    (case x_MOST_WITHIN => k_is)
    (case x_DEEPEST => k_is)
#print axioms PySem.Challenge.cw_taletask_k01_tasks_holds
