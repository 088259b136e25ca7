import PyProof.Rows.All
import Wide.All
import OpenK.AllK
import Wide.FinOn
import HandS.ForMost
import HandS.ForExc
import HandS.IsInst
import HandS.Gcd
import HandS.TupAny
import HandS.TupMul
import HandS.Style
import HandS.Wide
import HandS.ExcIs
import HandS.HotCalls
import PySem.Challenge.RW_knotproved_k63_whole_fractions_and_rows
set_option Elab.async false
set_option linter.all false
set_option maxRecDepth 100000
/-! Layer 3: trees of data over the hand layer; a ghost part of the heap that never changes beside what is owned. -/
namespace L3
open PySem PySem.Spec PyProof.Rows L2
abbrev Fg := PySem.W.Frag
abbrev D := PyData

/-! ### heaps -/
structure Wk (G H G1 H1 : Hp) : Prop where
  g : Same G G1
  b : Same G1 H1
  h : Same H H1
  n : ∀ p, H p ≠ none → G p = none → G1 p = none
theorem Wk.refl {G H : Hp} (b : Same G H) : Wk G H G H := ⟨Same.refl _, b, Same.refl _, fun _ _ h => h⟩
theorem Wk.trans {G H G1 H1 G2 H2 : Hp} (x : Wk G H G1 H1) (y : Wk G1 H1 G2 H2) : Wk G H G2 H2 :=
  ⟨x.g.trans y.g, y.b, x.h.trans y.h, fun p h1 h2 => by
    refine y.n p (fun e => ?_) (x.n p h1 h2)
    cases q : H p with
    | none => exact h1 q
    | some o => rw [x.h p o q] at e; cases e⟩
theorem none_of_same {G H : Hp} {p : Addr} (b : Same G H) (h : H p = none) : G p = none := b.free h
theorem Wk.new {G H : Hp} {p : Addr} {o : HO} (b : Same G H) (hp : H p = none) : Wk G H (upd G p o) (upd H p o) := by
  have gp := none_of_same b hp
  refine ⟨fun q u e => ?_, fun q u e => ?_, fun q u e => ?_, fun q h1 h2 => ?_⟩
  · rw [upd_ne (ne_of_none e gp)]; exact e
  · unfold upd at e ⊢
    split at e
    · rename_i hq; rw [if_pos hq]; exact e
    · rename_i hq; rw [if_neg hq]; exact b q u e
  · rw [upd_ne (ne_of_none e hp)]; exact e
  · have hq : q ≠ p := fun z => h1 (by rw [z]; exact hp)
    rw [upd_ne hq]; exact h2
/-- a new object that will be owned -/
theorem Wk.own {G H : Hp} {p : Addr} {o : HO} (b : Same G H) (hp : H p = none) : Wk G H G (upd H p o) := by
  have gp := none_of_same b hp
  refine ⟨Same.refl _, fun q u e => ?_, fun q u e => ?_, fun _ _ h => h⟩
  · rw [upd_ne (ne_of_none e gp)]; exact b q u e
  · rw [upd_ne (ne_of_none e hp)]; exact e
/-- an owned object changes -/
theorem Wk.mut {G H G1 H1 : Hp} {p : Addr} {o : HO} (x : Wk G H G1 H1) (h0 : H p = none) (g1 : G1 p = none) : Wk G H G1 (upd H1 p o) := by
  refine ⟨x.g, fun q u e => ?_, fun q u e => ?_, x.n⟩
  · rw [upd_ne (ne_of_none e g1)]; exact x.b q u e
  · rw [upd_ne (ne_of_none e h0)]; exact x.h q u e
/-- an owned object is given to the ghost part -/
theorem Wk.freeze {G H G1 H1 : Hp} {p : Addr} {o : HO} (x : Wk G H G1 H1) (h0 : H p = none) (g1 : G1 p = none) (hp : H1 p = some o) : Wk G H (upd G1 p o) H1 := by
  refine ⟨fun q u e => ?_, fun q u e => ?_, x.h, fun q h1 h2 => ?_⟩
  · have e1 := x.g q u e
    rw [upd_ne (ne_of_none e1 g1)]; exact e1
  · unfold upd at e
    split at e
    · rename_i hq; rw [hq, hp]; exact e
    · exact x.b q u e
  · have hq : q ≠ p := fun z => h1 (by rw [z]; exact h0)
    rw [upd_ne hq]; exact x.n q h1 h2
/-- an owned object stays where nothing touches it -/
theorem Wk.keep {G H G1 H1 : Hp} {p : Addr} {o : HO} (x : Wk G H G1 H1) (hp : H p = some o) (gp : G p = none) : H1 p = some o ∧ G1 p = none :=
  ⟨x.h p o hp, x.n p (by rw [hp]; simp) gp⟩

/-! ### data -/
theorem sql_up {K : Fg} {H H' : Hp} {a : Addr} {xs : List V} (e : Same H H') (h : SqL K H a xs) : SqL K H' a xs := e.seq h
theorem sqt_up {K : Fg} {H H' : Hp} {a : Addr} {xs : List V} (e : Same H H') (h : SqT K H a xs) : SqT K H' a xs := by
  rcases h with (h | ⟨o, h⟩) | h
  · exact .inl (.inl (e _ _ h))
  · exact .inl (.inr ⟨o, e _ _ h⟩)
  · exact .inr h
def kD : Key → D
  | .inl i => .int i
  | .inr x => .str x
mutual
/-- the value v is the tree d -/
inductive Rp (K : Fg) (H : Hp) : V → D → Prop
  | non : Rp K H .non .none
  | bl (b : Bool) : Rp K H (.bl b) (.bool b)
  | int (i : Int) : Rp K H (.int i) (.int i)
  | str (x : Str) : Rp K H (.str x) (.str x)
  | lst {a : Addr} {xs : List V} {ds : List D} : SqL K H a xs → RpA K H xs ds → Rp K H (.ref a) (.list ds)
  | tup {a : Addr} {xs : List V} {ds : List D} : SqT K H a xs → RpA K H xs ds → Rp K H (.ref a) (.tuple ds)
  | dct {a : Addr} {kvs : List (Key × V)} {ds : List (D × D)} : H a = some (.dK kvs) → RpM K H kvs ds → Rp K H (.ref a) (.dict ds)
inductive RpA (K : Fg) (H : Hp) : List V → List D → Prop
  | nil : RpA K H [] []
  | cons {v : V} {vs : List V} {d : D} {ds : List D} : Rp K H v d → RpA K H vs ds → RpA K H (v :: vs) (d :: ds)
inductive RpM (K : Fg) (H : Hp) : List (Key × V) → List (D × D) → Prop
  | nil : RpM K H [] []
  | cons {k : Key} {v : V} {kvs : List (Key × V)} {d : D} {ds : List (D × D)} : Rp K H v d → RpM K H kvs ds → RpM K H ((k, v) :: kvs) ((kD k, d) :: ds)
end
mutual
theorem Rp.up {K : Fg} {H H' : Hp} (e : Same H H') : ∀ {v : V} {d : D}, Rp K H v d → Rp K H' v d
  | _, _, .non => .non
  | _, _, .bl b => .bl b
  | _, _, .int i => .int i
  | _, _, .str x => .str x
  | _, _, .lst hs ha => .lst (sql_up e hs) (RpA.up e ha)
  | _, _, .tup hs ha => .tup (sqt_up e hs) (RpA.up e ha)
  | _, _, .dct hs ha => .dct (e _ _ hs) (RpM.up e ha)
theorem RpA.up {K : Fg} {H H' : Hp} (e : Same H H') : ∀ {vs : List V} {ds : List D}, RpA K H vs ds → RpA K H' vs ds
  | _, _, .nil => .nil
  | _, _, .cons h1 h2 => .cons (Rp.up e h1) (RpA.up e h2)
theorem RpM.up {K : Fg} {H H' : Hp} (e : Same H H') : ∀ {vs : List (Key × V)} {ds : List (D × D)}, RpM K H vs ds → RpM K H' vs ds
  | _, _, .nil => .nil
  | _, _, .cons h1 h2 => .cons (Rp.up e h1) (RpM.up e h2)
end
theorem dp_up {K : Fg} {H H' : Hp} {v : V} {d : D} (e : Same H H') (h : Rp K H v d) : Rp K H' v d := Rp.up e h
theorem dpa_up {K : Fg} {H H' : Hp} {vs : List V} {ds : List D} (e : Same H H') (h : RpA K H vs ds) : RpA K H' vs ds := RpA.up e h
mutual
theorem rp_dp {K : Fg} {H : Hp} : ∀ {v : V} {d : D}, Rp K H v d → d.canLay0 = true → Dp K H v d
  | _, _, .non, _ => .non
  | _, _, .bl b, _ => .bl b
  | _, _, .int i, _ => .int i
  | _, _, .str x, _ => .str x
  | _, _, .lst hs ha, q => .lst hs (rpa_dp ha (by simpa only [PyData.canLay0] using q))
  | _, _, .tup hs ha, q => .tup hs (rpa_dp ha (by simpa only [PyData.canLay0] using q))
  | _, _, .dct _ _, q => by simp [PyData.canLay0] at q
theorem rpa_dp {K : Fg} {H : Hp} : ∀ {vs : List V} {ds : List D}, RpA K H vs ds → PyData.canLayAll0 ds = true → DpAll K H vs ds
  | _, _, .nil, _ => .nil
  | _, _, .cons h1 h2, q => by
    simp only [PyData.canLayAll0, Bool.and_eq_true] at q
    exact .cons (rp_dp h1 q.1) (rpa_dp h2 q.2)
end
theorem rp_sh {K : Fg} {H : Hp} {v : V} {d : D} (h : Rp K H v d) (q : SeqAt.shaped d = true) : Dp K H v d := rp_dp h (SeqAt.canLay_of_shaped q)
theorem dpa_len {K : Fg} {H : Hp} : ∀ {ds : List D} {vs : List V}, RpA K H vs ds → vs.length = ds.length
  | [], _, h => by cases h; rfl
  | d :: ds, _, h => by
    cases h with
    | cons _ h2 => simp [dpa_len h2]
theorem dpa_at {K : Fg} {H : Hp} : ∀ {ds : List D} {vs : List V} {i : Nat} {v : V}, RpA K H vs ds → vs[i]? = some v → ∃ d, ds[i]? = some d ∧ Rp K H v d
  | [], _, i, v, h, e => by cases h; simp at e
  | d :: ds, _, i, v, h, e => by
    cases h with
    | cons h1 h2 =>
      cases i with
      | zero => simp at e; subst e; exact ⟨d, rfl, h1⟩
      | succ i =>
        obtain ⟨d', a, b⟩ := dpa_at (i := i) h2 (by simpa using e)
        exact ⟨d', by simpa using a, b⟩
theorem dpa_at' {K : Fg} {H : Hp} {ds : List D} {vs : List V} {i : Nat} {d : D} (h : RpA K H vs ds) (e : ds[i]? = some d) : ∃ v, vs[i]? = some v ∧ Rp K H v d := by
  have hl := dpa_len h
  have hi : i < ds.length := (List.getElem?_eq_some_iff.mp e).1
  have hv : vs[i]? = some (vs[i]'(by omega)) := List.getElem?_eq_getElem (by omega)
  obtain ⟨d', a, b⟩ := dpa_at h hv
  rw [e] at a; cases a
  exact ⟨_, hv, b⟩
theorem dpa_snoc {K : Fg} {H : Hp} : ∀ {ds : List D} {vs : List V} {d : D} {v : V}, RpA K H vs ds → Rp K H v d → RpA K H (vs ++ [v]) (ds ++ [d])
  | [], _, d, v, h, e => by cases h; exact .cons e .nil
  | _ :: ds, _, d, v, h, e => by
    cases h with
    | cons h1 h2 => exact .cons h1 (dpa_snoc h2 e)
theorem dpa_app {K : Fg} {H : Hp} : ∀ {ds es : List D} {vs ws : List V}, RpA K H vs ds → RpA K H ws es → RpA K H (vs ++ ws) (ds ++ es)
  | [], es, _, ws, h, e => by cases h; exact e
  | _ :: ds, es, _, ws, h, e => by
    cases h with
    | cons h1 h2 => exact .cons h1 (dpa_app h2 e)
theorem dpa_rev {K : Fg} {H : Hp} : ∀ {ds : List D} {vs : List V}, RpA K H vs ds → RpA K H vs.reverse ds.reverse
  | [], _, h => by cases h; exact .nil
  | _ :: ds, _, h => by
    cases h with
    | cons h1 h2 => rw [List.reverse_cons, List.reverse_cons]; exact dpa_snoc (dpa_rev h2) h1
theorem dpa_take {K : Fg} {H : Hp} : ∀ {ds : List D} {vs : List V} (n : Nat), RpA K H vs ds → RpA K H (vs.take n) (ds.take n)
  | _, _, 0, _ => by simp; exact .nil
  | [], _, n + 1, h => by cases h; exact .nil
  | _ :: ds, _, n + 1, h => by
    cases h with
    | cons h1 h2 => exact .cons h1 (dpa_take n h2)
theorem dpa_drop {K : Fg} {H : Hp} : ∀ {ds : List D} {vs : List V} (n : Nat), RpA K H vs ds → RpA K H (vs.drop n) (ds.drop n)
  | _, _, 0, h => h
  | [], _, n + 1, h => by cases h; exact .nil
  | _ :: ds, _, n + 1, h => by
    cases h with
    | cons h1 h2 => exact dpa_drop n h2
def iL (ns : List Int) : List D := ns.map .int
theorem dpa_iL {K : Fg} {H : Hp} : ∀ {ns : List Int} {vs : List V}, RpA K H vs (iL ns) → vs = ns.map V.int
  | [], _, h => by cases h; rfl
  | n :: ns, _, h => by
    cases h with
    | cons h1 h2 => cases h1; rw [dpa_iL (ns := ns) h2]; rfl
theorem iL_dpa {K : Fg} {H : Hp} : ∀ (ns : List Int), RpA K H (ns.map V.int) (iL ns)
  | [] => .nil
  | n :: ns => .cons (.int n) (iL_dpa ns)
def bL (bs : List Bool) : List D := bs.map .bool
theorem dpa_bL {K : Fg} {H : Hp} : ∀ {ns : List Bool} {vs : List V}, RpA K H vs (bL ns) → vs = ns.map V.bl
  | [], _, h => by cases h; rfl
  | n :: ns, _, h => by
    cases h with
    | cons h1 h2 => cases h1; rw [dpa_bL (ns := ns) h2]; rfl

/-! ### what a reading gives -/
def EvD (K : Fg) (te : TE) (σ : L2.St) (G H : Hp) (d : D) : Prop := ∀ G1 H1, Wk G H G1 H1 → ∀ Q : VK, (∀ v G2 H2, Wk G1 H1 G2 H2 → Rp K G2 v d → Q v H2) → te σ H1 Q
/-- a value that is no data (a class, an owned object) -/
def EvV (te : TE) (σ : L2.St) (G H : Hp) (v : V) : Prop := ∀ G1 H1, Wk G H G1 H1 → ∀ Q : VK, (∀ G2 H2, Wk G1 H1 G2 H2 → Q v H2) → te σ H1 Q
def EvB (K : Fg) (tt : TT) (σ : L2.St) (G H : Hp) (b : Bool) : Prop := ∀ G1 H1, Wk G H G1 H1 → ∀ Q : Bool → Hp → Prop, (∀ G2 H2, Wk G1 H1 G2 H2 → Q b H2) → tt σ H1 Q
def EvA (K : Fg) (ta : TA) (σ : L2.St) (G H : Hp) (ds : List D) : Prop := ∀ G1 H1, Wk G H G1 H1 → ∀ Q : List V → Hp → Prop, (∀ vs G2 H2, Wk G1 H1 G2 H2 → RpA K G2 vs ds → Q vs H2) → ta σ H1 Q
section
variable {K : Fg} {σ : L2.St} {G H G' H' : Hp} {ta tb te tx : TE} {t u : TT} {d e : D}
theorem EvD.up (w : Wk G H G' H') (h : EvD K te σ G H d) : EvD K te σ G' H' d := fun G1 H1 a Q q => h G1 H1 (w.trans a) Q q
theorem EvV.up {v : V} (w : Wk G H G' H') (h : EvV te σ G H v) : EvV te σ G' H' v := fun G1 H1 a Q q => h G1 H1 (w.trans a) Q q
theorem EvB.up {b : Bool} (w : Wk G H G' H') (h : EvB K t σ G H b) : EvB K t σ G' H' b := fun G1 H1 a Q q => h G1 H1 (w.trans a) Q q
theorem EvA.up {ta : TA} {ds : List D} (w : Wk G H G' H') (h : EvA K ta σ G H ds) : EvA K ta σ G' H' ds := fun G1 H1 a Q q => h G1 H1 (w.trans a) Q q
theorem EvD.to (h : EvD K te σ G H d) (q : d = e) : EvD K te σ G H e := q ▸ h
theorem EvB.to {b c : Bool} (h : EvB K t σ G H b) (q : b = c) : EvB K t σ G H c := q ▸ h
theorem ed_var {i : Nat} {v : V} (h : σ[i]? = some (some v)) (hd : Rp K G v d) : EvD K (tVar i) σ G H d := fun G1 H1 w Q q => ⟨v, h, q v G1 H1 (Wk.refl w.b) (dp_up w.g hd)⟩
theorem ev_var {i : Nat} {v : V} (h : σ[i]? = some (some v)) : EvV (tVar i) σ G H v := fun G1 H1 w Q q => ⟨v, h, q G1 H1 (Wk.refl w.b)⟩
theorem ed_vI {i : Nat} {n : Int} (h : σ[i]? = some (some (.int n))) : EvD K (tVar i) σ G H (.int n) := ed_var h (.int n)
theorem ed_c {v : V} (hd : ∀ G, Rp K G v d) : EvD K (tC v) σ G H d := fun G1 H1 w Q q => q v G1 H1 (Wk.refl w.b) (hd G1)
theorem ev_c {v : V} : EvV (tC v) σ G H v := fun G1 H1 w Q q => q G1 H1 (Wk.refl w.b)
theorem ed_int {n : Int} : EvD K (tC (.int n)) σ G H (.int n) := ed_c fun _ => .int n
theorem ed_bl {b : Bool} : EvD K (tC (.bl b)) σ G H (.bool b) := ed_c fun _ => .bl b
theorem ed_non : EvD K (tC .non) σ G H .none := ed_c fun _ => .non
theorem ed_str {s : Str} : EvD K (tC (.str s)) σ G H (.str s) := ed_c fun _ => .str s
/-- two in a row -/
theorem ed_two {R : V → V → Hp → VK → Prop} {f : D} (ha : EvD K ta σ G H d) (hb : EvD K tb σ G H e)
    (hr : ∀ x y G1 H1, Wk G H G1 H1 → Rp K G1 x d → Rp K G1 y e → ∀ Q : VK, (∀ v G2 H2, Wk G1 H1 G2 H2 → Rp K G2 v f → Q v H2) → R x y H1 Q) : EvD K (tOp R ta tb) σ G H f := fun G1 H1 w Q q =>
  ha G1 H1 w _ fun x G2 H2 w2 hx => hb G2 H2 (w.trans w2) _ fun y G3 H3 w3 hy => hr x y G3 H3 ((w.trans w2).trans w3) (dp_up w3.g hx) hy Q fun v G4 H4 w4 hv => q v G4 H4 ((w2.trans w3).trans w4) hv
theorem ed_I0 {g : Int → Int → V} {f : D} {i j : Int} (ha : EvD K ta σ G H (.int i)) (hb : EvD K tb σ G H (.int j)) (hg : ∀ G, Rp K G (g i j) f) : EvD K (tOp (rI0 g) ta tb) σ G H f :=
  ed_two ha hb fun x y G1 H1 w hx hy Q q => by
    cases hx; cases hy
    exact ⟨i, j, rfl, rfl, q _ G1 H1 (Wk.refl w.b) (hg G1)⟩
theorem ed_I {C : Int → Int → Prop} {g : Int → Int → V} {f : D} {i j : Int} (ha : EvD K ta σ G H (.int i)) (hb : EvD K tb σ G H (.int j)) (hc : C i j) (hg : ∀ G, Rp K G (g i j) f) : EvD K (tOp (rI C g) ta tb) σ G H f :=
  ed_two ha hb fun x y G1 H1 w hx hy Q q => by
    cases hx; cases hy
    exact ⟨i, j, rfl, rfl, hc, q _ G1 H1 (Wk.refl w.b) (hg G1)⟩
theorem ed_add {i j : Int} (ha : EvD K ta σ G H (.int i)) (hb : EvD K tb σ G H (.int j)) : EvD K (tOp (rI0 fun i j => .int (i + j)) ta tb) σ G H (.int (i + j)) := ed_I0 ha hb fun _ => .int _
theorem ed_sub {i j : Int} (ha : EvD K ta σ G H (.int i)) (hb : EvD K tb σ G H (.int j)) : EvD K (tOp (rI0 fun i j => .int (i - j)) ta tb) σ G H (.int (i - j)) := ed_I0 ha hb fun _ => .int _
theorem ed_mul {i j : Int} (ha : EvD K ta σ G H (.int i)) (hb : EvD K tb σ G H (.int j)) (hc : CMul i j) : EvD K (tOp (rI CMul fun i j => .int (i * j)) ta tb) σ G H (.int (i * j)) := ed_I ha hb hc fun _ => .int _
theorem ed_mod {i j : Int} (ha : EvD K ta σ G H (.int i)) (hb : EvD K tb σ G H (.int j)) (hc : j ≠ 0) : EvD K (tOp (rI (fun _ j => j ≠ 0) fun i j => .int (i.fmod j)) ta tb) σ G H (.int (i.fmod j)) := ed_I (C := fun _ j => j ≠ 0) ha hb hc fun _ => .int _
theorem ed_div {i j : Int} (ha : EvD K ta σ G H (.int i)) (hb : EvD K tb σ G H (.int j)) (hc : CDivN i j) : EvD K (tOp (rI CDivN fun i j => .int (i.fdiv j)) ta tb) σ G H (.int (i.fdiv j)) := ed_I ha hb hc fun _ => .int _
theorem ed_pow {i j : Int} (ha : EvD K ta σ G H (.int i)) (hb : EvD K tb σ G H (.int j)) (hc : CPow i j) : EvD K (tOp (rI CPow fun i j => .int (i ^ j.toNat)) ta tb) σ G H (.int (i ^ j.toNat)) := ed_I ha hb hc fun _ => .int _
theorem ed_neg {i : Int} (ha : EvD K ta σ G H (.int i)) : EvD K (tUn (rU fun i => .int (-i)) ta) σ G H (.int (-i)) := fun G1 H1 w Q q =>
  ha G1 H1 w _ fun x G2 H2 w2 hx => by
    cases hx
    exact ⟨i, rfl, q _ G2 H2 w2 (.int _)⟩
theorem ed_lt {i j : Int} (ha : EvD K ta σ G H (.int i)) (hb : EvD K tb σ G H (.int j)) : EvD K (tOp (rI0 fun i j => .bl (decide (i < j))) ta tb) σ G H (.bool (decide (i < j))) := ed_I0 ha hb fun _ => .bl _
theorem ed_le {i j : Int} (ha : EvD K ta σ G H (.int i)) (hb : EvD K tb σ G H (.int j)) : EvD K (tOp (rI0 fun i j => .bl (decide (i ≤ j))) ta tb) σ G H (.bool (decide (i ≤ j))) := ed_I0 ha hb fun _ => .bl _
theorem ed_gt {i j : Int} (ha : EvD K ta σ G H (.int i)) (hb : EvD K tb σ G H (.int j)) : EvD K (tOp (rI0 fun i j => .bl (decide (j < i))) ta tb) σ G H (.bool (decide (j < i))) := ed_I0 ha hb fun _ => .bl _
theorem ed_ge {i j : Int} (ha : EvD K ta σ G H (.int i)) (hb : EvD K tb σ G H (.int j)) : EvD K (tOp (rI0 fun i j => .bl (decide (j ≤ i))) ta tb) σ G H (.bool (decide (j ≤ i))) := ed_I0 ha hb fun _ => .bl _
/-- == and != of any data -/
theorem ed_eq (ha : EvD K ta σ G H d) (hb : EvD K tb σ G H e) (sd : SeqAt.shaped d = true) (se : SeqAt.shaped e = true) : EvD K (tOp (rEqD K) ta tb) σ G H (.bool (PyData.eqv d e)) :=
  ed_two ha hb fun x y G1 H1 w hx hy Q q => ⟨d, e, rp_sh (dp_up w.b hx) sd, rp_sh (dp_up w.b hy) se, sd, se, q _ G1 H1 (Wk.refl w.b) (.bl _)⟩
theorem ed_ne (ha : EvD K ta σ G H d) (hb : EvD K tb σ G H e) (sd : SeqAt.shaped d = true) (se : SeqAt.shaped e = true) : EvD K (tOp (rNeD K) ta tb) σ G H (.bool (!PyData.eqv d e)) :=
  ed_two ha hb fun x y G1 H1 w hx hy Q q => ⟨d, e, rp_sh (dp_up w.b hx) sd, rp_sh (dp_up w.b hy) se, sd, se, q _ G1 H1 (Wk.refl w.b) (.bl _)⟩
theorem ed_eqI {i j : Int} (ha : EvD K ta σ G H (.int i)) (hb : EvD K tb σ G H (.int j)) : EvD K (tOp (rEqD K) ta tb) σ G H (.bool (i == j)) := ed_eq ha hb rfl rfl
theorem ed_neI {i j : Int} (ha : EvD K ta σ G H (.int i)) (hb : EvD K tb σ G H (.int j)) : EvD K (tOp (rNeD K) ta tb) σ G H (.bool (!(i == j))) := ed_ne ha hb rfl rfl
/-! tests -/
theorem eb_test {b : Bool} (h : EvD K te σ G H (.bool b)) : EvB K (tTest te) σ G H b := fun G1 H1 w Q q => h G1 H1 w _ fun v G2 H2 w2 hv => by
  cases hv
  exact ⟨b, rfl, q G2 H2 w2⟩
theorem eb_val {b : Bool} (h : EvD K te σ G H (.bool b)) : EvB K (tB te) σ G H b := fun G1 H1 w Q q => h G1 H1 w _ fun v G2 H2 w2 hv => by
  cases hv
  exact ⟨b, rfl, q G2 H2 w2⟩
theorem eb_and {a b : Bool} (h1 : EvB K t σ G H a) (h2 : a = true → EvB K u σ G H b) : EvB K (tAnd t u) σ G H (a && b) := fun G1 H1 w Q q => h1 G1 H1 w _ fun G2 H2 w2 => by
  cases a with
  | true =>
    show u σ H2 Q
    exact h2 rfl G2 H2 (w.trans w2) Q fun G3 H3 w3 => q G3 H3 (w2.trans w3)
  | false => exact q G2 H2 w2
theorem eb_or {a b : Bool} (h1 : EvB K t σ G H a) (h2 : a = false → EvB K u σ G H b) : EvB K (tOr t u) σ G H (a || b) := fun G1 H1 w Q q => h1 G1 H1 w _ fun G2 H2 w2 => by
  cases a with
  | true => exact q G2 H2 w2
  | false =>
    show u σ H2 Q
    exact h2 rfl G2 H2 (w.trans w2) Q fun G3 H3 w3 => q G3 H3 (w2.trans w3)
theorem eb_not {a : Bool} (h1 : EvB K t σ G H a) : EvB K (tNot t) σ G H (!a) := fun G1 H1 w Q q => h1 G1 H1 w _ fun G2 H2 w2 => q G2 H2 w2
theorem eb_tru {ta : TE} {r : V → Hp → (Bool → Hp → Prop) → Prop} {b : Bool} (ha : EvD K ta σ G H d) (hr : ∀ x G1 H1, Same G1 H1 → Rp K G1 x d → ∀ Q : Bool → Hp → Prop, Q b H1 → r x H1 Q) : EvB K (fun σ H Q => ta σ H fun x H' => r x H' Q) σ G H b := fun G1 H1 w Q q =>
  ha G1 H1 w _ fun x G2 H2 w2 hx => hr x G2 H2 w2.b hx Q (q G2 H2 w2)
/-- values of and, or, not over truth values -/
theorem ed_andV {a b : Bool} (h1 : EvD K ta σ G H (.bool a)) (h2 : a = true → EvD K tb σ G H (.bool b)) : EvD K (tAndV ta tb) σ G H (.bool (a && b)) := fun G1 H1 w Q q => h1 G1 H1 w _ fun v G2 H2 w2 hv => by
  cases hv
  refine ⟨a, rfl, ?_⟩
  cases a with
  | true =>
    show tb σ H2 Q
    exact h2 rfl G2 H2 (w.trans w2) Q fun v G3 H3 w3 hv => q v G3 H3 (w2.trans w3) hv
  | false => exact q _ G2 H2 w2 (.bl _)
theorem ed_orV {a b : Bool} (h1 : EvD K ta σ G H (.bool a)) (h2 : a = false → EvD K tb σ G H (.bool b)) : EvD K (tOrV ta tb) σ G H (.bool (a || b)) := fun G1 H1 w Q q => h1 G1 H1 w _ fun v G2 H2 w2 hv => by
  cases hv
  refine ⟨a, rfl, ?_⟩
  cases a with
  | true => exact q _ G2 H2 w2 (.bl _)
  | false =>
    show tb σ H2 Q
    exact h2 rfl G2 H2 (w.trans w2) Q fun v G3 H3 w3 hv => q v G3 H3 (w2.trans w3) hv
theorem ed_notV {a : Bool} (h1 : EvD K ta σ G H (.bool a)) : EvD K (tNotV ta) σ G H (.bool (!a)) := fun G1 H1 w Q q => h1 G1 H1 w _ fun v G2 H2 w2 hv => by
  cases hv
  exact ⟨a, rfl, q _ G2 H2 w2 (.bl _)⟩
theorem ed_if {b : Bool} (h : EvB K t σ G H b) (h1 : b = true → EvD K ta σ G H d) (h2 : b = false → EvD K tb σ G H e) : EvD K (tIf t ta tb) σ G H (if b = true then d else e) := fun G1 H1 w Q q => h G1 H1 w _ fun G2 H2 w2 => by
  cases b with
  | true =>
    show ta σ H2 Q
    exact h1 rfl G2 H2 (w.trans w2) Q fun v G3 H3 w3 hv => q v G3 H3 (w2.trans w3) hv
  | false =>
    show tb σ H2 Q
    exact h2 rfl G2 H2 (w.trans w2) Q fun v G3 H3 w3 hv => q v G3 H3 (w2.trans w3) hv
/-! rows of expressions, displays -/
theorem ea_nil : EvA K tNil σ G H [] := fun G1 H1 w Q q => q [] G1 H1 (Wk.refl w.b) .nil
theorem ea_cons {tr : TA} {ds : List D} (h : EvD K te σ G H d) (hr : EvA K tr σ G H ds) : EvA K (tCons te tr) σ G H (d :: ds) := fun G1 H1 w Q q =>
  h G1 H1 w _ fun v G2 H2 w2 hv => hr G2 H2 (w.trans w2) _ fun vs G3 H3 w3 hvs => q _ G3 H3 (w2.trans w3) (.cons (dp_up w3.g hv) hvs)
theorem sz_ok {n : Nat} (h : n ≤ 16777216) : n ≤ sizeLine := h
theorem ed_tup {ta : TA} {ds : List D} (h : EvA K ta σ G H ds) (hl : ds.length ≤ 1000000 := by exact Nat.le_of_ble_eq_true rfl) : EvD K (tTup ta) σ G H (.tuple ds) := fun G1 H1 w Q q =>
  h G1 H1 w _ fun vs G2 H2 w2 hv => ⟨Nat.le_trans (Nat.le_of_eq (dpa_len hv)) (Nat.le_trans hl (by decide)), fun p hp => q _ _ _ (w2.trans (Wk.new w2.b hp)) (.tup (SqT.of upd_same) (dpa_up (Wk.new w2.b hp).g hv))⟩
theorem ed_lst {ta : TA} {ds : List D} (h : EvA K ta σ G H ds) (hl : ds.length ≤ 1000000 := by exact Nat.le_of_ble_eq_true rfl) : EvD K (tLst ta) σ G H (.list ds) := fun G1 H1 w Q q =>
  h G1 H1 w _ fun vs G2 H2 w2 hv => ⟨Nat.le_trans (Nat.le_of_eq (dpa_len hv)) (Nat.le_trans hl (by decide)), fun p hp => q _ _ _ (w2.trans (Wk.new w2.b hp)) (.lst (SqL.of upd_same) (dpa_up (Wk.new w2.b hp).g hv))⟩
end
end L3
namespace L3
open PySem PySem.Spec PyProof.Rows L2
/-! ### promises over data -/
/-- called with n trees: R tells the answer, or the class of what is raised -/
def spR (K : Fg) (n : Nat) (R : List D → Except Addr D → Prop) : Sp := fun vs H Q E => ∃ (G : Hp) (ds : List D) (r : Except Addr D), Same G H ∧ RpA K G vs ds ∧ ds.length = n ∧ R ds r ∧
  match r with
  | .ok d => ∀ v G1 H1, Wk G H G1 H1 → Rp K G1 v d → Q v H1
  | .error C => ∀ H1, Same H H1 → E (.ref C) none H1
theorem spR_len {K : Fg} {n : Nat} {R : List D → Except Addr D → Prop} : ∀ vs H Q E, spR K n R vs H Q E → vs.length = n := fun vs H Q E h => by
  obtain ⟨G, ds, r, _, h1, h2, _⟩ := h
  rw [dpa_len h1, h2]
section
variable {K : Fg} {σ : L2.St} {G H G' H' : Hp} {ta tb te tx tl : TE} {t u : TT} {d e : D}
theorem ed_call {n : Nat} {R : List D → Except Addr D → Prop} {E : XK} {a : TA} {ds : List D} (ha : EvA K a σ G H ds) (hn : ds.length = n) (hr : R ds (.ok d)) : EvD K (tCall (spR K n R) [] E a) σ G H d := fun G1 H1 w Q q =>
  ha G1 H1 w _ fun vs G2 H2 w2 hv => by
    rw [List.append_nil]
    exact ⟨G2, ds, _, w2.b, hv, hn, hr, fun v G3 H3 w3 h => q v G3 H3 (w2.trans w3) h⟩
theorem ed_callS {n : Nat} {R : List D → Except Addr D → Prop} {E : L2.St → XK} {a : TA} {ds : List D} (ha : EvA K a σ G H ds) (hn : ds.length = n) (hr : R ds (.ok d)) : EvD K (tCallS (spR K n R) E a) σ G H d := fun G1 H1 w Q q =>
  ha G1 H1 w _ fun vs G2 H2 w2 hv => ⟨G2, ds, _, w2.b, hv, hn, hr, fun v G3 H3 w3 h => q v G3 H3 (w2.trans w3) h⟩
/-- a call that raises -/
theorem ex_call {n : Nat} {R : List D → Except Addr D → Prop} {E : XK} {a : TA} {ds : List D} {C : Addr} {Q : VK} (b : Same G H) (ha : EvA K a σ G H ds) (hn : ds.length = n) (hr : R ds (.error C)) (hE : ∀ H1, Same H H1 → E (.ref C) none H1) : tCall (spR K n R) [] E a σ H Q :=
  ha G H (Wk.refl b) _ fun vs G2 H2 w2 hv => by
    rw [List.append_nil]
    exact ⟨G2, ds, _, w2.b, hv, hn, hr, fun H3 w3 => hE H3 (w2.h.trans w3)⟩
theorem ex_callS {n : Nat} {R : List D → Except Addr D → Prop} {E : L2.St → XK} {a : TA} {ds : List D} {C : Addr} {Q : VK} (b : Same G H) (ha : EvA K a σ G H ds) (hn : ds.length = n) (hr : R ds (.error C)) (hE : ∀ H1, Same H H1 → E σ (.ref C) none H1) : tCallS (spR K n R) E a σ H Q :=
  ha G H (Wk.refl b) _ fun vs G2 H2 w2 hv => ⟨G2, ds, _, w2.b, hv, hn, hr, fun H3 w3 => hE H3 (w2.h.trans w3)⟩
/-! ### built-ins -/
theorem rpa1 {xs : List V} (h : RpA K G xs [d]) : ∃ x, xs = [x] ∧ Rp K G x d := by
  cases h with
  | cons h1 h2 => cases h2; exact ⟨_, rfl, h1⟩
theorem ed_b1 {r : List V → Hp → VK → Prop} {f : D} (ha : EvD K ta σ G H d) (hr : ∀ x G1 H1, Wk G H G1 H1 → Rp K G1 x d → ∀ Q : VK, (∀ v G2 H2, Wk G1 H1 G2 H2 → Rp K G2 v f → Q v H2) → r [x] H1 Q) : EvD K (tCB r (tCons ta tNil)) σ G H f := fun G1 H1 w Q q =>
  ha G1 H1 w _ fun x G2 H2 w2 hx => hr x G2 H2 (w.trans w2) hx Q fun v G3 H3 w3 hv => q v G3 H3 (w2.trans w3) hv
abbrev rLen (K : Fg) : List V → Hp → VK → Prop := fun xs H Q => ∃ p ys, xs = [V.ref p] ∧ (SqL K H p ys ∨ SqT K H p ys) ∧ Q (.int ys.length) H
theorem ed_lenL {ds : List D} (ha : EvD K ta σ G H (.list ds)) : EvD K (tCB (rLen K) (tCons ta tNil)) σ G H (.int ds.length) :=
  ed_b1 ha fun x G1 H1 w hx Q q => by
    cases hx with
    | lst hs hl => exact ⟨_, _, rfl, .inl (sql_up w.b hs), q _ _ _ (Wk.refl w.b) (by rw [dpa_len hl]; exact .int _)⟩
theorem ed_lenT {ds : List D} (ha : EvD K ta σ G H (.tuple ds)) : EvD K (tCB (rLen K) (tCons ta tNil)) σ G H (.int ds.length) :=
  ed_b1 ha fun x G1 H1 w hx Q q => by
    cases hx with
    | tup hs hl => exact ⟨_, _, rfl, .inr (sqt_up w.b hs), q _ _ _ (Wk.refl w.b) (by rw [dpa_len hl]; exact .int _)⟩
abbrev rAbs : List V → Hp → VK → Prop := fun xs H Q => ∃ i, xs = [V.int i] ∧ Q (.int (if i < 0 then -i else i)) H
theorem ed_abs {i : Int} (ha : EvD K ta σ G H (.int i)) : EvD K (tCB rAbs (tCons ta tNil)) σ G H (.int (if i < 0 then -i else i)) :=
  ed_b1 ha fun x G1 H1 w hx Q q => by
    cases hx
    exact ⟨i, rfl, q _ _ _ (Wk.refl w.b) (.int _)⟩
abbrev rInt : List V → Hp → VK → Prop := fun xs H Q => (∃ i, xs = [V.int i] ∧ Q (.int i) H) ∨ ∃ k, xs = [V.bl k] ∧ Q (.int (if k then 1 else 0)) H
theorem ed_toint {i : Int} (ha : EvD K ta σ G H (.int i)) : EvD K (tCB rInt (tCons ta tNil)) σ G H (.int i) :=
  ed_b1 ha fun x G1 H1 w hx Q q => by
    cases hx
    exact .inl ⟨i, rfl, q _ _ _ (Wk.refl w.b) (.int _)⟩
theorem ed_sum {ns : List Int} (ha : EvD K ta σ G H (.list (iL ns))) : EvD K (tCB (rSum K) (tCons ta tNil)) σ G H (.int ns.sum) :=
  ed_b1 ha fun x G1 H1 w hx Q q => by
    cases hx with
    | lst hs hl => exact ⟨_, ns, rfl, dpa_iL hl ▸ sql_up w.b hs, q _ _ _ (Wk.refl w.b) (.int _)⟩
theorem ed_all {bs : List Bool} (ha : EvD K ta σ G H (.list (bL bs))) : EvD K (tCB (rAll K) (tCons ta tNil)) σ G H (.bool (bs.all id)) :=
  ed_b1 ha fun x G1 H1 w hx Q q => by
    cases hx with
    | lst hs hl => exact ⟨_, bs, rfl, dpa_bL hl ▸ sql_up w.b hs, q _ _ _ (Wk.refl w.b) (.bl _)⟩
theorem ed_any {bs : List Bool} (ha : EvD K ta σ G H (.list (bL bs))) : EvD K (tCB (rAny K) (tCons ta tNil)) σ G H (.bool (bs.any id)) :=
  ed_b1 ha fun x G1 H1 w hx Q q => by
    cases hx with
    | lst hs hl => exact ⟨_, bs, rfl, dpa_bL hl ▸ sql_up w.b hs, q _ _ _ (Wk.refl w.b) (.bl _)⟩
theorem ed_gcd {i j : Int} (ha : EvD K ta σ G H (.int i)) (hb : EvD K tb σ G H (.int j)) : EvD K (tCB rGcd (tCons ta (tCons tb tNil))) σ G H (.int ((Nat.gcd i.natAbs j.natAbs : Nat) : Int)) := fun G1 H1 w Q q =>
  ha G1 H1 w _ fun x G2 H2 w2 hx => hb G2 H2 (w.trans w2) _ fun y G3 H3 w3 hy => by
    cases hx; cases hy
    exact ⟨i, j, rfl, q _ _ _ (w2.trans w3) (.int _)⟩
/-- the name of a tree's type -/
def tyN : D → String
  | .none => "NoneType"
  | .bool _ => "bool"
  | .int _ => "int"
  | .str _ => "str"
  | .list _ => "list"
  | .tuple _ => "tuple"
  | .dict _ => "dict"
theorem rp_ty {x : V} (b : Same G H) (h : Rp K G x d) : TyX K H x (.type (tyN d)) := by
  cases h with
  | non => exact .base .non
  | bl k => exact .base (.bl k)
  | int i => exact .base (.int i)
  | str s => exact .base (.str s)
  | lst hs _ =>
    rcases hs with (h | ⟨o, h⟩) | ⟨o, its, n, h1, h2, _⟩
    · exact .base (.lst (b _ _ h))
    · exact .base (.frz (b _ _ h))
    · exact .kList h1 h2
  | tup hs _ =>
    rcases hs with (h | ⟨o, h⟩) | ⟨o, its, n, h1, h2, _⟩
    · exact .base (.tup (b _ _ h))
    · exact .fTuple (b _ _ h)
    · exact .kTuple h1 h2
  | dct hs _ => exact .base (.dK (b _ _ hs))
theorem ed_isi {T : String} {k : Bool} (ha : EvD K ta σ G H d) (hk : kitB (tyN d) T = some k) : EvD K (tCB (rIsi K) (tCons ta (tCons (tC (.ty T)) tNil))) σ G H (.bool k) := fun G1 H1 w Q q =>
  ha G1 H1 w _ fun x G2 H2 w2 hx => ⟨x, .ty T, _, .type T, k, rfl, .ty T, rp_ty w2.b hx, kit_ty hk, q _ _ _ w2 (.bl _)⟩
/-- isinstance(x, (S, T)) -/
theorem ed_isi2 {S T : String} {k m : Bool} (ha : EvD K ta σ G H d) (hk : kitB (tyN d) S = some k) (hm : kitB (tyN d) T = some m) : EvD K (tCB (rIsiT K) (tCons ta (tCons (tTup (tCons (tC (.ty S)) (tCons (tC (.ty T)) tNil))) tNil))) σ G H (.bool (k || m)) := fun G1 H1 w Q q =>
  ha G1 H1 w _ fun x G2 H2 w2 hx => ⟨by show 2 ≤ sizeLine; decide, fun p hp => by
    refine ⟨x, p, _, _, [.type S, .type T], (k || m), rfl, upd_same, .cons (.ty S) (.cons (.ty T) .nil), rp_ty (Wk.new w2.b hp).b (dp_up (Wk.new w2.b hp).g hx), ?_, q _ _ _ (w2.trans (Wk.new w2.b hp)) (.bl _)⟩
    refine kitAny_cons (kit_ty hk) (fun e => ?_) (fun e => by rw [e]; rfl)
    refine kitAny_cons (kit_ty hm) (fun e2 => by rw [e, e2]; exact kitAny_nil) (fun e2 => by rw [e, e2]; rfl)⟩
abbrev rListOf (K : Fg) : List V → Hp → VK → Prop := fun xs H Q => ∃ p ys, xs = [V.ref p] ∧ (SqL K H p ys ∨ SqT K H p ys) ∧ ∀ l, H l = none → Q (.ref l) (upd H l (.lst ys))
abbrev rTupOf (K : Fg) : List V → Hp → VK → Prop := fun xs H Q => ∃ p ys, xs = [V.ref p] ∧ ((SqL K H p ys ∧ ∀ l, H l = none → Q (.ref l) (upd H l (.tup ys))) ∨ (SqT K H p ys ∧ Q (.ref p) H))
theorem ed_listT {ds : List D} (ha : EvD K ta σ G H (.tuple ds)) : EvD K (tCB (rListOf K) (tCons ta tNil)) σ G H (.list ds) :=
  ed_b1 ha fun x G1 H1 w hx Q q => by
    cases hx with
    | tup hs hl => exact ⟨_, _, rfl, .inr (sqt_up w.b hs), fun l hl' => q _ _ _ (Wk.new w.b hl') (.lst (SqL.of upd_same) (dpa_up (Wk.new w.b hl').g hl))⟩
theorem ed_listL {ds : List D} (ha : EvD K ta σ G H (.list ds)) : EvD K (tCB (rListOf K) (tCons ta tNil)) σ G H (.list ds) :=
  ed_b1 ha fun x G1 H1 w hx Q q => by
    cases hx with
    | lst hs hl => exact ⟨_, _, rfl, .inl (sql_up w.b hs), fun l hl' => q _ _ _ (Wk.new w.b hl') (.lst (SqL.of upd_same) (dpa_up (Wk.new w.b hl').g hl))⟩
theorem ed_tupL {ds : List D} (ha : EvD K ta σ G H (.list ds)) : EvD K (tCB (rTupOf K) (tCons ta tNil)) σ G H (.tuple ds) :=
  ed_b1 ha fun x G1 H1 w hx Q q => by
    cases hx with
    | lst hs hl => exact ⟨_, _, rfl, .inl ⟨sql_up w.b hs, fun l hl' => q _ _ _ (Wk.new w.b hl') (.tup (SqT.of upd_same) (dpa_up (Wk.new w.b hl').g hl))⟩⟩
theorem ed_tupT {ds : List D} (ha : EvD K ta σ G H (.tuple ds)) : EvD K (tCB (rTupOf K) (tCons ta tNil)) σ G H (.tuple ds) :=
  ed_b1 ha fun x G1 H1 w hx Q q => by
    cases hx with
    | tup hs hl => exact ⟨_, _, rfl, .inr ⟨sqt_up w.b hs, q _ _ _ (Wk.refl w.b) (.tup hs hl)⟩⟩
/-! ### places, slices, sums -/
theorem atI_rp {xs : List V} {ds : List D} {i : Int} (h : RpA K G xs ds) (e : atI ds i = some d) : ∃ v, atI xs i = some v ∧ Rp K G v d := by
  unfold atI at e ⊢
  rw [dpa_len h]
  cases q : ixN ds.length i with
  | none => rw [q] at e; cases e
  | some j =>
    rw [q] at e
    exact dpa_at' h e
theorem ed_ixL {ds : List D} {i : Int} (ha : EvD K ta σ G H (.list ds)) (hb : EvD K tb σ G H (.int i)) (hi : atI ds i = some d) : EvD K (tOp (rIxL K) ta tb) σ G H d :=
  ed_two ha hb fun x y G1 H1 w hx hy Q q => by
    cases hy
    cases hx with
    | lst hs hl =>
      obtain ⟨v, e, r⟩ := atI_rp hl hi
      exact ⟨_, _, i, v, rfl, rfl, sql_up w.b hs, e, q _ _ _ (Wk.refl w.b) r⟩
theorem ed_ixT {ds : List D} {i : Int} (ha : EvD K ta σ G H (.tuple ds)) (hb : EvD K tb σ G H (.int i)) (hi : atI ds i = some d) : EvD K (tOp (rIxT K) ta tb) σ G H d :=
  ed_two ha hb fun x y G1 H1 w hx hy Q q => by
    cases hy
    cases hx with
    | tup hs hl =>
      obtain ⟨v, e, r⟩ := atI_rp hl hi
      exact ⟨_, _, i, v, rfl, rfl, sqt_up w.b hs, e, q _ _ _ (Wk.refl w.b) r⟩
/-- xs[k], a list or a tuple -/
def rIx2 (K : Fg) : R2 := fun x y H Q => rIxL K x y H Q ∨ rIxT K x y H Q
theorem ix_two {X : Cx} : IxR X (rIx2 X.K) := IxR.or ix_list ix_tup
theorem ed_ix2L {ds : List D} {i : Int} (ha : EvD K ta σ G H (.list ds)) (hb : EvD K tb σ G H (.int i)) (hi : atI ds i = some d) : EvD K (tOp (rIx2 K) ta tb) σ G H d :=
  fun G1 H1 w Q q => by
    refine ha G1 H1 w _ fun x G2 H2 w2 hx => hb G2 H2 (w.trans w2) _ fun y G3 H3 w3 hy => .inl ?_
    cases hy
    cases hx with
    | lst hs hl =>
      obtain ⟨v, e, r⟩ := atI_rp hl hi
      exact ⟨_, _, i, v, rfl, rfl, sql_up (w3.g.trans w3.b) hs, e, q _ _ _ (w2.trans w3) (dp_up w3.g r)⟩
theorem ed_ix2T {ds : List D} {i : Int} (ha : EvD K ta σ G H (.tuple ds)) (hb : EvD K tb σ G H (.int i)) (hi : atI ds i = some d) : EvD K (tOp (rIx2 K) ta tb) σ G H d :=
  fun G1 H1 w Q q => by
    refine ha G1 H1 w _ fun x G2 H2 w2 hx => hb G2 H2 (w.trans w2) _ fun y G3 H3 w3 hy => .inr ?_
    cases hy
    cases hx with
    | tup hs hl =>
      obtain ⟨v, e, r⟩ := atI_rp hl hi
      exact ⟨_, _, i, v, rfl, rfl, sqt_up (w3.g.trans w3.b) hs, e, q _ _ _ (w2.trans w3) (dp_up w3.g r)⟩
theorem ed_revL {ds : List D} (ha : EvD K ta σ G H (.list ds)) : EvD K (tRevL K ta) σ G H (.list ds.reverse) := fun G1 H1 w Q q =>
  ha G1 H1 w _ fun x G2 H2 w2 hx => by
    cases hx with
    | lst hs hl => exact ⟨_, _, rfl, sql_up w2.b hs, fun p hp => q _ _ _ (w2.trans (Wk.new w2.b hp)) (.lst (SqL.of upd_same) (dpa_rev (dpa_up (Wk.new w2.b hp).g hl)))⟩
theorem ed_catT {ds es : List D} (ha : EvD K ta σ G H (.tuple ds)) (hb : EvD K tb σ G H (.tuple es)) (hz : ds.length + es.length ≤ 1000000) : EvD K (tOp (rCatA K) ta tb) σ G H (.tuple (ds ++ es)) :=
  ed_two ha hb fun x y G1 H1 w hx hy Q q => by
    cases hx with
    | tup hs hl =>
      cases hy with
      | tup hs2 hl2 =>
        refine ⟨_, _, _, _, rfl, rfl, sqt_up w.b hs, sqt_up w.b hs2, ?_, fun e => ?_, fun e e2 => ?_, fun e e2 p hp => ?_⟩
        · rw [dpa_len hl, dpa_len hl2]; exact Nat.le_trans hz (by decide)
        · subst e
          have : ds = [] := by cases hl; rfl
          subst this
          exact q _ _ _ (Wk.refl w.b) (.tup hs2 hl2)
        · subst e2
          have : es = [] := by cases hl2; rfl
          subst this
          rw [List.append_nil] at q
          exact q _ _ _ (Wk.refl w.b) (.tup hs hl)
        · exact q _ _ _ (Wk.new w.b hp) (.tup (SqT.of upd_same) (dpa_app (dpa_up (Wk.new w.b hp).g hl) (dpa_up (Wk.new w.b hp).g hl2)))
end
end L3
namespace L3
open PySem PySem.Spec PyProof.Rows L2
section
variable {K : Fg} {σ : L2.St} {G H G' H' : Hp} {ta tb te tx tl : TE} {tt : TT} {d e : D}
/-! ### comprehensions -/
/-- one turn: the target takes v, leaving σ2 -/
def Turn1 (K : Fg) (g : TG) (tt : TT) (te : TE) (σ : L2.St) (vs : List Nat) (G H : Hp) (v : V) (p : Bool) (f : D) : Prop :=
  ∃ σ2, (∀ Q : L2.St → Hp → Prop, Q σ2 H → g v (wipe σ vs) H Q) ∧ wipe σ2 vs = wipe σ vs ∧ EvB K tt σ2 G H p ∧ (p = true → EvD K te σ2 G H f)
def lcP (K : Fg) (G H : Hp) (Dl : Addr) (H' : Hp) (out : List D) : Prop := ∃ (G' : Hp) (acc : List V), Wk G H G' H' ∧ G' Dl = none ∧ H' Dl = some (.lst acc) ∧ RpA K G' acc out
theorem lc_turn {g : TG} {vs : List Nat} {Dl : Addr} {H1 : Hp} {out : List D} {v : V} {p : Bool} {f : D} (h0 : H Dl = none) (hp : lcP K G H Dl H1 out) (hl : out.length < 1000000)
    (hv : ∀ G1, Wk G H G1 H1 → RpA K G1 [] [] → Turn1 K g tt te σ vs G1 H1 v p f) {Nx : Hp → Prop} (hN : ∀ H', lcP K G H Dl H' (if p = true then out ++ [f] else out) → Nx H') :
    g v (wipe σ vs) H1 fun σ2 H2 => wipe σ2 vs = wipe σ vs ∧ tt σ2 H2 fun b H3 => if b = true then te σ2 H3 fun y H4 => ∃ acc, H4 Dl = some (.lst acc) ∧ acc.length < sizeLine ∧ Nx (upd H4 Dl (.lst (acc ++ [y]))) else Nx H3 := by
  obtain ⟨G1, acc, w, gd, hd, hr⟩ := hp
  obtain ⟨σ2, hg, hw, ht, he⟩ := hv G1 w .nil
  refine hg _ ⟨hw, ht G1 H1 (Wk.refl w.b) _ fun G2 H2 w2 => ?_⟩
  have k2 := w2.keep hd gd
  cases p with
  | false => exact hN H2 ⟨G2, acc, w.trans w2, k2.2, k2.1, dpa_up w2.g hr⟩
  | true =>
    show te σ2 H2 _
    refine he rfl G2 H2 w2 _ fun y G3 H3 w3 hy => ?_
    have k3 := w3.keep k2.1 k2.2
    refine ⟨acc, k3.1, by rw [dpa_len hr]; exact Nat.lt_of_lt_of_le hl (by decide), hN _ ⟨G3, _, Wk.mut ((w.trans w2).trans w3) h0 k3.2, k3.2, upd_same, dpa_snoc (dpa_up (w2.g.trans w3.g) hr) hy⟩⟩
theorem lc_end {Dl : Addr} {H1 : Hp} {out : List D} (h0 : H Dl = none) (hp : lcP K G H Dl H1 out) {Q : VK} (q : ∀ v G2 H2, Wk G H G2 H2 → Rp K G2 v (.list out) → Q v H2) : Q (.ref Dl) H1 := by
  obtain ⟨G1, acc, w, gd, hd, hr⟩ := hp
  have w2 := w.freeze h0 gd hd
  refine q _ _ _ w2 (.lst (SqL.of upd_same) (dpa_up (fun b o e => ?_) hr))
  rw [upd_ne (ne_of_none e gd)]; exact e
/-- the outcome -/
def fm (p : D → Bool) (f : D → D) (ds : List D) : List D := (ds.filter p).map f
theorem fm_snoc {p : D → Bool} {f : D → D} {ds : List D} {i : Nat} (h : ds[i]? = some d) : fm p f (ds.take (i + 1)) = if p d = true then fm p f (ds.take i) ++ [f d] else fm p f (ds.take i) := by
  have e : ds.take (i + 1) = ds.take i ++ [d] := by
    rw [List.take_add_one, h]; rfl
  unfold fm
  rw [e, List.filter_append, List.map_append]
  cases q : p d <;> simp [List.filter_cons, q]
theorem fm_len (p : D → Bool) (f : D → D) (ds : List D) : (fm p f ds).length ≤ ds.length := by
  unfold fm; rw [List.length_map]; exact List.length_filter_le _ _
theorem ed_lcT {g : TG} {vs : List Nat} {ds : List D} (p : D → Bool) (f : D → D) (h : EvD K tl σ G H (.tuple ds)) (hz : ds.length ≤ 500000)
    (he : ∀ d ∈ ds, ∀ v G1 H1, Wk G H G1 H1 → Rp K G1 v d → Turn1 K g tt te σ vs G1 H1 v (p d) (f d)) : EvD K (tLc (iTup K tl) g tt te vs) σ G H (.list (fm p f ds)) := fun G1 H1 w Q q =>
  h G1 H1 w _ fun v G2 H2 w2 hv => by
    cases hv with
    | @tup a xs _ hs hr =>
      refine ⟨a, rfl, ⟨xs, sqt_up w2.b hs⟩, fun Dl hD => ?_⟩
      refine lc_tup (xs := xs) (fun i H' => lcP K G2 H2 Dl H' (fm p f (ds.take i))) ⟨G2, [], Wk.own w2.b hD, none_of_same w2.b hD, upd_same, .nil⟩ (fun i H' _ P => ?_) (fun i x H' hx P => ?_) (fun H' P => ?_)
      · obtain ⟨G3, _, w3, _⟩ := P
        exact sqt_up w3.b (sqt_up w3.g hs)
      · obtain ⟨d, hd, hxd⟩ := dpa_at hr hx
        refine lc_turn hD P ?_ (fun G3 w3 _ => he d (List.mem_of_getElem? hd) x G3 H' ((w.trans w2).trans w3) (dp_up w3.g hxd)) (fun H'' P' => ?_)
        · have := fm_len p f (ds.take i); rw [List.length_take] at this; omega
        · rw [fm_snoc hd]; exact P'
      · rw [dpa_len hr, List.take_length] at P
        exact lc_end hD P fun v G3 H3 w3 r => q v G3 H3 (w2.trans w3) r
theorem ed_lcL {g : TG} {vs : List Nat} {ds : List D} (p : D → Bool) (f : D → D) (h : EvD K tl σ G H (.list ds)) (hz : ds.length ≤ 500000)
    (he : ∀ d ∈ ds, ∀ v G1 H1, Wk G H G1 H1 → Rp K G1 v d → Turn1 K g tt te σ vs G1 H1 v (p d) (f d)) : EvD K (tLc (iList K tl) g tt te vs) σ G H (.list (fm p f ds)) := fun G1 H1 w Q q =>
  h G1 H1 w _ fun v G2 H2 w2 hv => by
    cases hv with
    | @lst a xs _ hs hr =>
      refine ⟨a, rfl, ⟨xs, sql_up w2.b hs⟩, fun Dl hD => ?_⟩
      refine lc_list (xs := xs) (fun i H' => lcP K G2 H2 Dl H' (fm p f (ds.take i))) ⟨G2, [], Wk.own w2.b hD, none_of_same w2.b hD, upd_same, .nil⟩ (fun i H' _ P => ?_) (fun i x H' hx P => ?_) (fun H' P => ?_)
      · obtain ⟨G3, _, w3, _⟩ := P
        exact sql_up w3.b (sql_up w3.g hs)
      · obtain ⟨d, hd, hxd⟩ := dpa_at hr hx
        refine lc_turn hD P ?_ (fun G3 w3 _ => he d (List.mem_of_getElem? hd) x G3 H' ((w.trans w2).trans w3) (dp_up w3.g hxd)) (fun H'' P' => ?_)
        · have := fm_len p f (ds.take i); rw [List.length_take] at this; omega
        · rw [fm_snoc hd]; exact P'
      · rw [dpa_len hr, List.take_length] at P
        exact lc_end hD P fun v G3 H3 w3 r => q v G3 H3 (w2.trans w3) r
/-- the whole numbers lo, lo + 1, .. -/
def rg (lo : Int) (n : Nat) : List D := (List.range n).map fun (i : Nat) => PyData.int (lo + (i : Int))
theorem rg_len (lo : Int) (n : Nat) : (rg lo n).length = n := by simp [rg]
theorem rg_at {lo : Int} {n i : Nat} (h : i < n) : (rg lo n)[i]? = some (.int (lo + (i : Int))) := by
  simp [rg, h]
theorem ed_lcR2 {g : TG} {vs : List Nat} {a : TA} {lo hi : Int} (p : D → Bool) (f : D → D) (h : EvA K a σ G H [.int lo, .int hi]) (hz : -1000000 ≤ lo ∧ lo ≤ 1000000 ∧ -1000000 ≤ hi ∧ hi - lo ≤ 400000)
    (he : ∀ (i : Int), lo ≤ i → i < hi → ∀ G1 H1, Wk G H G1 H1 → Turn1 K g tt te σ vs G1 H1 (.int i) (p (.int i)) (f (.int i))) : EvD K (tLc (iRng2 a) g tt te vs) σ G H (.list (fm p f (rg lo (hi - lo).toNat))) := fun G1 H1 w Q q =>
  h G1 H1 w _ fun vv G2 H2 w2 hv => by
    cases hv with
    | cons h1 h2 =>
      cases h2 with
      | cons h2 h3 =>
        cases h1; cases h2; cases h3
        refine ⟨lo, hi, rfl, by omega, fun Dl hD => ?_⟩
        refine lc_range (fun i H' => lcP K G2 H2 Dl H' (fm p f ((rg lo (hi - lo).toNat).take i))) ⟨G2, [], Wk.own w2.b hD, none_of_same w2.b hD, upd_same, .nil⟩ (fun i H' hx P => ?_) (fun H' P => ?_)
        · refine lc_turn hD P ?_ (fun G3 w3 _ => he (lo + i) (by omega) (by omega) G3 H' ((w.trans w2).trans w3)) (fun H'' P' => ?_)
          · have := fm_len p f ((rg lo (hi - lo).toNat).take i); rw [List.length_take, rg_len] at this; omega
          · rw [fm_snoc (rg_at hx)]; exact P'
        · have e := rg_len lo (hi - lo).toNat
          rw [List.take_of_length_le (by omega)] at P
          exact lc_end hD P fun v G3 H3 w3 r => q v G3 H3 (w2.trans w3) r
theorem ed_lcR1 {g : TG} {vs : List Nat} {a : TA} {hi : Int} (p : D → Bool) (f : D → D) (h : EvA K a σ G H [.int hi]) (hz : -1000000 ≤ hi ∧ hi ≤ 400000)
    (he : ∀ (i : Int), 0 ≤ i → i < hi → ∀ G1 H1, Wk G H G1 H1 → Turn1 K g tt te σ vs G1 H1 (.int i) (p (.int i)) (f (.int i))) : EvD K (tLc (iRng1 a) g tt te vs) σ G H (.list (fm p f (rg 0 hi.toNat))) := fun G1 H1 w Q q =>
  h G1 H1 w _ fun vv G2 H2 w2 hv => by
    cases hv with
    | cons h1 h2 =>
      cases h1; cases h2
      refine ⟨hi, rfl, by omega, by omega, fun Dl hD => ?_⟩
      refine lc_range (fun i H' => lcP K G2 H2 Dl H' (fm p f ((rg 0 hi.toNat).take i))) ⟨G2, [], Wk.own w2.b hD, none_of_same w2.b hD, upd_same, .nil⟩ (fun i H' hx P => ?_) (fun H' P => ?_)
      · refine lc_turn hD P ?_ (fun G3 w3 _ => he (0 + i) (by omega) (by omega) G3 H' ((w.trans w2).trans w3)) (fun H'' P' => ?_)
        · have := fm_len p f ((rg 0 hi.toNat).take i); rw [List.length_take, rg_len] at this; omega
        · rw [fm_snoc (rg_at hx)]; exact P'
      · have e := rg_len 0 hi.toNat
        rw [List.take_of_length_le (by omega)] at P
        exact lc_end hD P fun v G3 H3 w3 r => q v G3 H3 (w2.trans w3) r
theorem eb_yes : EvB K tYes σ G H true := fun G1 H1 w Q q => q G1 H1 (Wk.refl w.b)
/-- the target a name, no test -/
theorem turn_n {j : Nat} {vs : List Nat} {v : V} {f : D} (hw : wipe ((wipe σ vs).set j (some v)) vs = wipe σ vs) (h : EvD K te ((wipe σ vs).set j (some v)) G H f) : Turn1 K (gName j) tYes te σ vs G H v true f :=
  ⟨_, fun _ q => q, hw, eb_yes, fun _ => h⟩
theorem turn_t {j : Nat} {vs : List Nat} {v : V} {b : Bool} {f : D} (hw : wipe ((wipe σ vs).set j (some v)) vs = wipe σ vs) (ht : EvB K tt ((wipe σ vs).set j (some v)) G H b) (h : b = true → EvD K te ((wipe σ vs).set j (some v)) G H f) : Turn1 K (gName j) tt te σ vs G H v b f :=
  ⟨_, fun _ q => q, hw, ht, h⟩
/-- the target a pair of names -/
theorem turn_2 {j k : Nat} {vs : List Nat} {v : V} {b : Bool} {f d1 d2 : D} (hb : Same G H) (hv : Rp K G v (.tuple [d1, d2])) (hw : ∀ x y, wipe (((wipe σ vs).set j (some x)).set k (some y)) vs = wipe σ vs)
    (ht : ∀ x y, Rp K G x d1 → Rp K G y d2 → EvB K tt (((wipe σ vs).set j (some x)).set k (some y)) G H b) (h : ∀ x y, Rp K G x d1 → Rp K G y d2 → b = true → EvD K te (((wipe σ vs).set j (some x)).set k (some y)) G H f) :
    Turn1 K (gTup K 2 (gCons (gName j) (gCons (gName k) gNil))) tt te σ vs G H v b f := by
  cases hv with
  | tup hs hr =>
    cases hr with
    | cons h1 hr =>
      cases hr with
      | cons h2 hr =>
        cases hr
        exact ⟨_, fun Q q => ⟨_, _, rfl, sqt_up hb hs, rfl, _, _, rfl, _, _, rfl, rfl, q⟩, hw _ _, ht _ _ h1 h2, fun e => h _ _ h1 h2 e⟩
theorem fm_true (f : D → D) (ds : List D) : fm (fun _ => true) f ds = ds.map f := by
  unfold fm; rw [List.filter_eq_self.mpr (fun _ _ => rfl)]

/-! ### statements -/
variable {E : Ends} {tu tw tz : TS} {g : TG}
variable (K)
theorem s_ret (b : Same G H) (h : EvD K te σ G H d) (q : ∀ v G1 H1, Wk G H G1 H1 → Rp K G1 v d → E.rt v H1) : tRet te E σ H := h G H (Wk.refl b) _ q
theorem s_if {c : Bool} (b : Same G H) (h : EvB K tt σ G H c) (h1 : c = true → ∀ G1 H1, Wk G H G1 H1 → tu E σ H1) (h2 : c = false → ∀ G1 H1, Wk G H G1 H1 → tw E σ H1) : tIfS tt tu tw E σ H :=
  h G H (Wk.refl b) _ fun G1 H1 w => by
    cases c with
    | true => exact h1 rfl G1 H1 w
    | false => exact h2 rfl G1 H1 w
theorem s_drop (b : Same G H) (h : EvD K te σ G H d) (q : ∀ G1 H1, Wk G H G1 H1 → E.nx σ H1) : tDrop te E σ H := h G H (Wk.refl b) _ fun v G1 H1 w _ => q G1 H1 w
theorem s_set {i : Nat} (b : Same G H) (h : EvD K te σ G H d) (q : ∀ v G1 H1, Wk G H G1 H1 → Rp K G1 v d → E.nx (σ.set i (some v)) H1) : tAsg te (gName i) E σ H := h G H (Wk.refl b) _ q
theorem s_setI {i : Nat} {n : Int} (b : Same G H) (h : EvD K te σ G H (.int n)) (q : ∀ G1 H1, Wk G H G1 H1 → E.nx (σ.set i (some (.int n))) H1) : tAsg te (gName i) E σ H := h G H (Wk.refl b) _ fun v G1 H1 w r => by
  cases r
  exact q G1 H1 w
theorem s_par {i j : Nat} {a : TA} {d1 d2 : D} (b : Same G H) (h : EvA K a σ G H [d1, d2]) (q : ∀ x y G1 H1, Wk G H G1 H1 → Rp K G1 x d1 → Rp K G1 y d2 → E.nx ((σ.set i (some x)).set j (some y)) H1) : tPar i j a E σ H :=
  h G H (Wk.refl b) _ fun vs G1 H1 w r => by
    cases r with
    | cons h1 r =>
      cases r with
      | cons h2 r =>
        cases r
        exact ⟨_, _, rfl, q _ _ G1 H1 w h1 h2⟩
theorem s_parI {i j : Nat} {a : TA} {m n : Int} (b : Same G H) (h : EvA K a σ G H [.int m, .int n]) (q : ∀ G1 H1, Wk G H G1 H1 → E.nx ((σ.set i (some (.int m))).set j (some (.int n))) H1) : tPar i j a E σ H :=
  s_par K b h fun x y G1 H1 w h1 h2 => by
    cases h1; cases h2
    exact q G1 H1 w
/-- a, b = e, e a pair -/
theorem s_two {i j : Nat} {d1 d2 : D} (b : Same G H) (h : EvD K te σ G H (.tuple [d1, d2])) (q : ∀ x y G1 H1, Wk G H G1 H1 → Rp K G1 x d1 → Rp K G1 y d2 → E.nx ((σ.set i (some x)).set j (some y)) H1) :
    tAsg te (gTup K 2 (gCons (gName i) (gCons (gName j) gNil))) E σ H :=
  h G H (Wk.refl b) _ fun v G1 H1 w r => by
    cases r with
    | tup hs hr =>
      cases hr with
      | cons h1 hr =>
        cases hr with
        | cons h2 hr =>
          cases hr
          exact ⟨_, _, rfl, sqt_up w.b hs, rfl, _, _, rfl, _, _, rfl, rfl, q _ _ G1 H1 w h1 h2⟩
theorem s_twoI {i j : Nat} {m n : Int} (b : Same G H) (h : EvD K te σ G H (.tuple [.int m, .int n])) (q : ∀ G1 H1, Wk G H G1 H1 → E.nx ((σ.set i (some (.int m))).set j (some (.int n))) H1) :
    tAsg te (gTup K 2 (gCons (gName i) (gCons (gName j) gNil))) E σ H := s_two K b h fun x y G1 H1 w h1 h2 => by
  cases h1; cases h2
  exact q G1 H1 w
theorem s_four {i j k l : Nat} {d1 d2 d3 d4 : Int} (b : Same G H) (h : EvD K te σ G H (.tuple [.int d1, .int d2, .int d3, .int d4])) (q : ∀ G1 H1, Wk G H G1 H1 → E.nx ((((σ.set i (some (.int d1))).set j (some (.int d2))).set k (some (.int d3))).set l (some (.int d4))) H1) :
    tAsg te (gTup K 4 (gCons (gName i) (gCons (gName j) (gCons (gName k) (gCons (gName l) gNil))))) E σ H :=
  h G H (Wk.refl b) _ fun v G1 H1 w r => by
    cases r with
    | tup hs hr =>
      cases hr with
      | cons h1 hr =>
        cases hr with
        | cons h2 hr =>
          cases hr with
          | cons h3 hr =>
            cases hr with
            | cons h4 hr =>
              cases hr; cases h1; cases h2; cases h3; cases h4
              exact ⟨_, _, rfl, sqt_up w.b hs, rfl, _, _, rfl, _, _, rfl, _, _, rfl, _, _, rfl, rfl, q G1 H1 w⟩
/-- x = []: an owned list -/
theorem s_new {i : Nat} (b : Same G H) (q : ∀ p, H p = none → E.nx (σ.set i (some (.ref p))) (upd H p (.lst []))) : tAsg (tLst tNil) (gName i) E σ H := ⟨Nat.zero_le _, q⟩
/-- x.append(e), x owned -/
theorem s_app {i : Nat} {p : Addr} {xs : List V} (b : Same G H) (hs : σ[i]? = some (some (.ref p))) (gp : G p = none) (hp : H p = some (.lst xs)) (hl : xs.length < 1000000) (h : EvD K te σ G H d)
    (q : ∀ v G1 H1, Wk G H G1 H1 → G1 p = none → H1 p = some (.lst xs) → Rp K G1 v d → E.nx σ (upd H1 p (.lst (xs ++ [v])))) : tDrop (tBM K "list" rAppend (tVar i) (tCons te tNil)) E σ H := by
  refine ⟨_, hs, .inl ⟨rfl, _, SqL.of hp⟩, h G H (Wk.refl b) _ fun v G1 H1 w r => ?_⟩
  have k := w.keep hp gp
  exact ⟨p, xs, v, rfl, rfl, k.1, Nat.lt_of_lt_of_le hl (by decide), q v G1 H1 w k.2 k.1 r⟩
/-- what holds between two turns: the ghost part has grown from Gs on -/
abbrev Btw (G0 H0 Gs : Hp) (I : L2.St → Hp → Hp → Prop) : L2.St → Hp → Prop := fun σ' H' => ∃ G', Wk G0 H0 G' H' ∧ Same Gs G' ∧ I σ' G' H'
variable {G0 H0 : Hp}
theorem Btw.mk {Gs : Hp} {I : L2.St → Hp → Hp → Prop} {σ' : L2.St} {G1 H1 : Hp} (w : Wk G0 H0 G1 H1) (e : Same Gs G1) (h : I σ' G1 H1) : Btw G0 H0 Gs I σ' H1 := ⟨G1, w, e, h⟩
theorem s_forT {ds : List D} (Inv : Nat → L2.St → Hp → Hp → Prop) (w0 : Wk G0 H0 G H) (h : EvD K tl σ G H (.tuple ds)) (h0 : ∀ G1 H1, Wk G H G1 H1 → Inv 0 σ G1 H1)
    (hs : ∀ i d v σ' G1 H1, ds[i]? = some d → Rp K G1 v d → Wk G0 H0 G1 H1 → Same G G1 → Inv i σ' G1 H1 → g v σ' H1 fun σ2 H2 => tu { E with nx := Btw G0 H0 G1 (Inv (i + 1)), ct := Btw G0 H0 G1 (Inv (i + 1)), bk := E.nx } σ2 H2)
    (hd : ∀ σ' G1 H1, Wk G0 H0 G1 H1 → Same G G1 → Inv ds.length σ' G1 H1 → E.nx σ' H1) : tFor (iTup K tl) g tu E σ H :=
  h G H (Wk.refl w0.b) _ fun v G1 H1 w r => by
    cases r with
    | @tup a xs _ hq hr =>
      refine ⟨a, rfl, ⟨xs, sqt_up w.b hq⟩, fun i m σ' H' => m = xs.length - i ∧ i ≤ xs.length ∧ Btw G0 H0 G1 (Inv i) σ' H', ⟨xs.length, by simp, Nat.zero_le _, G1, w0.trans w, Same.refl _, h0 G1 H1 w⟩, ?_⟩
      rintro i m σ' H' ⟨rfl, hi, G2, w2, e2, P⟩
      have hq2 := sqt_up w2.b (sqt_up e2 hq)
      by_cases hlt : i < xs.length
      · refine .inr ⟨⟨xs, xs[i], hq2, by simp [hlt]⟩, Btw G0 H0 G2 (Inv (i + 1)), fun σ3 H3 p => ?_, fun x H3 y => ?_⟩
        · obtain ⟨G3, w3, e3, p⟩ := p
          exact ⟨xs.length - (i + 1), by omega, rfl, hlt, G3, w3, e2.trans e3, p⟩
        · obtain ⟨e, y⟩ := y
          subst e
          have hx := y xs hq2
          obtain ⟨d, hd', hxd⟩ := dpa_at hr hx
          exact hs i d x σ' G2 _ hd' (dp_up e2 hxd) w2 (w.g.trans e2) P
      · have e : i = xs.length := by omega
        subst e
        rw [dpa_len hr] at P
        exact .inl ⟨⟨xs, hq2, Nat.le_refl _⟩, hd σ' G2 H' w2 (w.g.trans e2) P⟩
theorem s_forL {ds : List D} (Inv : Nat → L2.St → Hp → Hp → Prop) (w0 : Wk G0 H0 G H) (h : EvD K tl σ G H (.list ds)) (h0 : ∀ G1 H1, Wk G H G1 H1 → Inv 0 σ G1 H1)
    (hs : ∀ i d v σ' G1 H1, ds[i]? = some d → Rp K G1 v d → Wk G0 H0 G1 H1 → Same G G1 → Inv i σ' G1 H1 → g v σ' H1 fun σ2 H2 => tu { E with nx := Btw G0 H0 G1 (Inv (i + 1)), ct := Btw G0 H0 G1 (Inv (i + 1)), bk := E.nx } σ2 H2)
    (hd : ∀ σ' G1 H1, Wk G0 H0 G1 H1 → Same G G1 → Inv ds.length σ' G1 H1 → E.nx σ' H1) : tFor (iList K tl) g tu E σ H :=
  h G H (Wk.refl w0.b) _ fun v G1 H1 w r => by
    cases r with
    | @lst a xs _ hq hr =>
      refine ⟨a, rfl, ⟨xs, sql_up w.b hq⟩, fun i m σ' H' => m = xs.length - i ∧ i ≤ xs.length ∧ Btw G0 H0 G1 (Inv i) σ' H', ⟨xs.length, by simp, Nat.zero_le _, G1, w0.trans w, Same.refl _, h0 G1 H1 w⟩, ?_⟩
      rintro i m σ' H' ⟨rfl, hi, G2, w2, e2, P⟩
      have hq2 := sql_up w2.b (sql_up e2 hq)
      by_cases hlt : i < xs.length
      · refine .inr ⟨⟨xs, xs[i], hq2, by simp [hlt]⟩, Btw G0 H0 G2 (Inv (i + 1)), fun σ3 H3 p => ?_, fun x H3 y => ?_⟩
        · obtain ⟨G3, w3, e3, p⟩ := p
          exact ⟨xs.length - (i + 1), by omega, rfl, hlt, G3, w3, e2.trans e3, p⟩
        · obtain ⟨e, y⟩ := y
          subst e
          have hx := y xs hq2
          obtain ⟨d, hd', hxd⟩ := dpa_at hr hx
          exact hs i d x σ' G2 _ hd' (dp_up e2 hxd) w2 (w.g.trans e2) P
      · have e : i = xs.length := by omega
        subst e
        rw [dpa_len hr] at P
        exact .inl ⟨⟨xs, hq2, Nat.le_refl _⟩, hd σ' G2 H' w2 (w.g.trans e2) P⟩
theorem s_rng {lo : Int} {n : Nat} {Gs : Hp} {H1 : Hp} {G1 : Hp} (Inv : Nat → L2.St → Hp → Hp → Prop) (w1 : Wk G0 H0 G1 H1) (e1 : Same Gs G1) (h0 : Inv 0 σ G1 H1)
    (hs : ∀ (i : Nat) σ' G2 H2, i < n → Wk G0 H0 G2 H2 → Same Gs G2 → Inv i σ' G2 H2 → g (.int (lo + i)) σ' H2 fun σ2 H2 => tu { E with nx := Btw G0 H0 G2 (Inv (i + 1)), ct := Btw G0 H0 G2 (Inv (i + 1)), bk := E.nx } σ2 H2)
    (hd : ∀ σ' G2 H2, Wk G0 H0 G2 H2 → Same Gs G2 → Inv n σ' G2 H2 → E.nx σ' H2) :
    ∃ W : Nat → Nat → L2.St → Hp → Prop, (∃ m, W 0 m σ H1) ∧ ∀ i m σ H, W i m σ H →
      ((Itr lo n).stop i H ∧ E.nx σ H) ∨ ((Itr lo n).go i H ∧ ∃ N : L2.St → Hp → Prop, (∀ σ' H', N σ' H' → ∃ m', m' < m ∧ W (i + 1) m' σ' H') ∧ ∀ x H', (Itr lo n).yld i H x H' → g x σ H' fun σ2 H2 => tu { E with nx := N, ct := N, bk := E.nx } σ2 H2) := by
  refine ⟨fun i m σ' H' => m = n - i ∧ i ≤ n ∧ Btw G0 H0 Gs (Inv i) σ' H', ⟨n, by simp, Nat.zero_le _, G1, w1, e1, h0⟩, ?_⟩
  rintro i m σ' H' ⟨rfl, hi, G2, w2, e2, P⟩
  by_cases hlt : i < n
  · refine .inr ⟨hlt, Btw G0 H0 G2 (Inv (i + 1)), fun σ3 H3 p => ?_, fun x H3 y => ?_⟩
    · obtain ⟨G3, w3, e3, p⟩ := p
      exact ⟨n - (i + 1), by omega, rfl, hlt, G3, w3, e2.trans e3, p⟩
    · obtain ⟨e, y⟩ := y
      subst e y
      exact hs i σ' G2 _ hlt w2 e2 P
  · have e : i = n := by omega
    subst e
    exact .inl ⟨Nat.le_refl _, hd σ' G2 H' w2 e2 P⟩
theorem s_forR1 {a : TA} {n : Int} (Inv : Nat → L2.St → Hp → Hp → Prop) (w0 : Wk G0 H0 G H) (h : EvA K a σ G H [.int n]) (hn : -1000000 ≤ n ∧ n ≤ 1000000) (h0 : ∀ G1 H1, Wk G H G1 H1 → Inv 0 σ G1 H1)
    (hs : ∀ (i : Nat) σ' G1 H1, (i : Int) < n → Wk G0 H0 G1 H1 → Same G G1 → Inv i σ' G1 H1 → g (.int i) σ' H1 fun σ2 H2 => tu { E with nx := Btw G0 H0 G1 (Inv (i + 1)), ct := Btw G0 H0 G1 (Inv (i + 1)), bk := E.nx } σ2 H2)
    (hd : ∀ σ' G1 H1, Wk G0 H0 G1 H1 → Same G G1 → Inv n.toNat σ' G1 H1 → E.nx σ' H1) : tFor (iRng1 a) g tu E σ H :=
  h G H (Wk.refl w0.b) _ fun vs G1 H1 w r => by
    cases r with
    | cons h1 h2 =>
      cases h1; cases h2
      refine ⟨n, rfl, by omega, by omega, s_rng (Gs := G) Inv (w0.trans w) w.g (h0 G1 H1 w) (fun i σ' G2 H2 hi w2 e2 P => ?_) hd⟩
      rw [Int.zero_add]
      exact hs i σ' G2 H2 (by omega) w2 e2 P
theorem s_forR2 {a : TA} {lo n : Int} (Inv : Nat → L2.St → Hp → Hp → Prop) (w0 : Wk G0 H0 G H) (h : EvA K a σ G H [.int lo, .int n]) (hn : -1000000 ≤ n ∧ n ≤ 1000000 ∧ -1000000 ≤ lo ∧ lo ≤ 1000000) (h0 : ∀ G1 H1, Wk G H G1 H1 → Inv 0 σ G1 H1)
    (hs : ∀ (i : Nat) σ' G1 H1, lo + (i : Int) < n → Wk G0 H0 G1 H1 → Same G G1 → Inv i σ' G1 H1 → g (.int (lo + i)) σ' H1 fun σ2 H2 => tu { E with nx := Btw G0 H0 G1 (Inv (i + 1)), ct := Btw G0 H0 G1 (Inv (i + 1)), bk := E.nx } σ2 H2)
    (hd : ∀ σ' G1 H1, Wk G0 H0 G1 H1 → Same G G1 → Inv (n - lo).toNat σ' G1 H1 → E.nx σ' H1) : tFor (iRng2 a) g tu E σ H :=
  h G H (Wk.refl w0.b) _ fun vs G1 H1 w r => by
    cases r with
    | cons h1 h2 =>
      cases h2 with
      | cons h2 h3 =>
        cases h1; cases h2; cases h3
        exact ⟨lo, n, rfl, by omega, s_rng (Gs := G) Inv (w0.trans w) w.g (h0 G1 H1 w) (fun i σ' G2 H2 hi w2 e2 P => hs i σ' G2 H2 (by omega) w2 e2 P) hd⟩
theorem s_while {m0 : Nat} (Inv : Nat → L2.St → Hp → Hp → Prop) (w0 : Wk G0 H0 G H) (h0 : Inv m0 σ G H)
    (hs : ∀ m σ' G1 H1, Wk G0 H0 G1 H1 → Inv m σ' G1 H1 → ∃ b, EvB K tt σ' G1 H1 b ∧ (b = true → ∀ G2 H2, Wk G1 H1 G2 H2 → Wk G0 H0 G2 H2 →
        tu { E with nx := fun σ3 H3 => ∃ m' G3, m' < m ∧ Wk G0 H0 G3 H3 ∧ Inv m' σ3 G3 H3, ct := fun σ3 H3 => ∃ m' G3, m' < m ∧ Wk G0 H0 G3 H3 ∧ Inv m' σ3 G3 H3, bk := E.nx } σ' H2) ∧
      (b = false → ∀ G2 H2, Wk G1 H1 G2 H2 → Wk G0 H0 G2 H2 → E.nx σ' H2)) : tWhile tt tu E σ H := by
  refine ⟨fun m σ' H' => ∃ G', Wk G0 H0 G' H' ∧ Inv m σ' G' H', ⟨m0, G, w0, h0⟩, fun m σ' H' P => ?_⟩
  obtain ⟨G1, w1, P⟩ := P
  obtain ⟨b, ht, h1, h2⟩ := hs m σ' G1 H' w1 P
  refine ht G1 H' (Wk.refl w1.b) _ fun G2 H2 w2 => ?_
  cases b with
  | true =>
    refine ⟨fun σ3 H3 => ∃ m' G3, m' < m ∧ Wk G0 H0 G3 H3 ∧ Inv m' σ3 G3 H3, fun σ3 H3 p => ?_, h1 rfl G2 H2 w2 (w1.trans w2)⟩
    obtain ⟨m', G3, l, w3, p⟩ := p
    exact ⟨m', l, G3, w3, p⟩
  | false => exact h2 rfl G2 H2 w2 (w1.trans w2)
end
end L3
namespace L3
open PySem PySem.Spec PyProof.Rows L2
section
variable {X : Cx} {K : Fg} {σ : L2.St} {G H : Hp} {ta tb te tl : TE} {d : D}
/-- a whole number of the module's top -/
theorem gl_int {x : Str} {n : Int} {pos : Pos} (hm : ∃ t, X.mg x = some (.int n t)) (hg : Gl X x := by rfl) (hd : (x == ("__debug__" : Str)) = false := by decide) : PE X (.Name x pos) (tC (.int n)) := by
  obtain ⟨t, e⟩ := hm
  exact pe_glob (v := .int n) hg e ⟨t, rfl⟩ hd
theorem gl_ref {x : Str} {a : Addr} {pos : Pos} (hm : X.mg x = some (.ref a)) (hg : Gl X x := by rfl) (hd : (x == ("__debug__" : Str)) = false := by decide) : PE X (.Name x pos) (tC (.ref a)) := pe_glob (v := .ref a) hg hm rfl hd
/-- a list or a tuple is walked -/
def iSeq (K : Fg) (tl : TE) : TI := fun σ H R => iList K tl σ H R ∨ iTup K tl σ H R
theorem pi_seq {tg l : Expr} {tl : TE} (hl : PE X l tl) : PI X tg l (iSeq X.K tl) := ⟨fun pins s σ H R I h => by
  rcases h with h | h
  · exact (pi_list hl).run pins s σ H R I h
  · exact (pi_tup hl).run pins s σ H R I h⟩
theorem ed_lcS {g : TG} {tt : TT} {vs : List Nat} {t : TE} {ds : List D} (h : EvD K (tLc (iList K tl) g tt te vs) σ G H d) : EvD K (tLc (iSeq K tl) g tt te vs) σ G H d := fun G1 H1 w Q q => .inl (h G1 H1 w Q q)
theorem lcS_l {g : TG} {tt : TT} {vs : List Nat} (h : EvD K (tLc (iList K tl) g tt te vs) σ G H d) : EvD K (tLc (iSeq K tl) g tt te vs) σ G H d := fun G1 H1 w Q q => .inl (h G1 H1 w Q q)
theorem lcS_t {g : TG} {tt : TT} {vs : List Nat} (h : EvD K (tLc (iTup K tl) g tt te vs) σ G H d) : EvD K (tLc (iSeq K tl) g tt te vs) σ G H d := fun G1 H1 w Q q => .inr (h G1 H1 w Q q)
theorem forS_l {g : TG} {tu : TS} {E : Ends} (h : tFor (iList K tl) g tu E σ H) : tFor (iSeq K tl) g tu E σ H := .inl h
theorem forS_t {g : TG} {tu : TS} {E : Ends} (h : tFor (iTup K tl) g tu E σ H) : tFor (iSeq K tl) g tu E σ H := .inr h
/-! ### truth -/
/-- the truth of a tree -/
def tru : D → Bool
  | .none => false
  | .bool b => b
  | .int i => i != 0
  | .str s => ((s.length : Int) != 0)
  | .list ds => !ds.isEmpty
  | .tuple ds => !ds.isEmpty
  | .dict ds => !ds.isEmpty
theorem isEmpty_len {α β : Type} {xs : List α} {ys : List β} (h : xs.length = ys.length) : xs.isEmpty = ys.isEmpty := by
  cases xs <;> cases ys <;> simp at h <;> rfl
theorem dpm_len : ∀ {ds : List (D × D)} {vs : List (Key × V)}, RpM K H vs ds → vs.length = ds.length
  | [], _, h => by cases h; rfl
  | d :: ds, _, h => by
    cases h with
    | cons _ h2 => simp [dpm_len h2]
theorem rp_tru {x : V} (b : Same G H) (h : Rp K G x d) (hs : ∀ s, d = .str s → s.length ≤ sizeLine) (hd : ∀ ds, d ≠ .dict ds) : TruV K x H (tru d) := by
  cases h with
  | non => exact rfl
  | bl k => exact rfl
  | int i => exact rfl
  | str s => exact ⟨hs s rfl, rfl⟩
  | lst hq hr => exact .inl ⟨_, sql_up b hq, by unfold tru; rw [isEmpty_len (dpa_len hr)]⟩
  | tup hq hr => exact .inr (.inl ⟨_, sqt_up b hq, by unfold tru; rw [isEmpty_len (dpa_len hr)]⟩)
  | dct hq hr => exact absurd rfl (hd _)
theorem eb_truI {i : Int} (h : EvD K te σ G H (.int i)) : EvB K (fun σ H Q => te σ H fun x H' => ∃ k, TruV K x H' k ∧ Q k H') σ G H (i != 0) :=
  eb_tru h fun x G1 H1 b hx Q q => ⟨_, rp_tru b hx (fun s e => by cases e) (fun ds e => by cases e), q⟩
theorem eb_truL {ds : List D} (h : EvD K te σ G H (.list ds)) : EvB K (fun σ H Q => te σ H fun x H' => ∃ k, TruV K x H' k ∧ Q k H') σ G H (!ds.isEmpty) :=
  eb_tru h fun x G1 H1 b hx Q q => ⟨_, rp_tru b hx (fun s e => by cases e) (fun ds e => by cases e), q⟩
theorem eb_truT {ds : List D} (h : EvD K te σ G H (.tuple ds)) : EvB K (fun σ H Q => te σ H fun x H' => ∃ k, TruV K x H' k ∧ Q k H') σ G H (!ds.isEmpty) :=
  eb_tru h fun x G1 H1 b hx Q q => ⟨_, rp_tru b hx (fun s e => by cases e) (fun ds e => by cases e), q⟩
theorem pt_truK {X : Cx} {K : Fg} {a : Expr} {ta : TE} (hK : X.K = K) (ha : PE X a ta) (he : ∀ whole, isTrue a X.env whole = (do let v ← whole; standAt a.pos; holding [v] (truthy v))) :
    PT X a (fun σ H Q => ta σ H fun x H' => ∃ k, TruV K x H' k ∧ Q k H') := by subst hK; exact pt_truth ha he
/-! ### is None -/
theorem ed_isN (ha : EvD K ta σ G H d) (k : Bool) (hk : k = (match d with | .none => true | _ => false)) : EvD K (tOp (fun x y H Q => y = .non ∧ Q (.bl (decide (x = .non))) H) ta (tC .non)) σ G H (.bool k) := fun G1 H1 w Q q =>
  ha G1 H1 w _ fun x G2 H2 w2 hx => by
    refine ⟨rfl, ?_⟩
    have e : decide (x = V.non) = k := by
      subst hk
      cases hx <;> simp
    rw [e]
    exact q _ _ _ w2 (.bl _)
theorem ed_notN (ha : EvD K ta σ G H d) (k : Bool) (hk : k = (match d with | .none => false | _ => true)) : EvD K (tOp (fun x y H Q => y = .non ∧ Q (.bl (!decide (x = .non))) H) ta (tC .non)) σ G H (.bool k) := fun G1 H1 w Q q =>
  ha G1 H1 w _ fun x G2 H2 w2 hx => by
    refine ⟨rfl, ?_⟩
    have e : (!decide (x = V.non)) = k := by
      subst hk
      cases hx <;> simp
    rw [e]
    exact q _ _ _ w2 (.bl _)
/-! ### a op b op c over whole numbers -/
theorem ed_chain {p p' : Int → Int → Bool} {ta tb tc : TE} {i j k : Int} (ha : EvD K ta σ G H (.int i)) (hb : EvD K tb σ G H (.int j)) (hc : p i j = true → EvD K tc σ G H (.int k)) :
    EvD K (tChain (rI0 fun i j => .bl (p i j)) (rI0 fun i j => .bl (p' i j)) ta tb tc) σ G H (.bool (p i j && p' j k)) := fun G1 H1 w Q q =>
  ha G1 H1 w _ fun x G2 H2 w2 hx => hb G2 H2 (w.trans w2) _ fun y G3 H3 w3 hy => by
    cases hx; cases hy
    refine ⟨i, j, rfl, rfl, p i j, rfl, ?_⟩
    cases e : p i j with
    | true =>
      rw [e, Bool.true_and] at q
      show tc σ H3 _
      refine hc e G3 H3 ((w.trans w2).trans w3) _ fun z G4 H4 w4 hz => ?_
      cases hz
      exact ⟨j, k, rfl, rfl, q (.bl (p' j k)) _ _ ((w2.trans w3).trans w4) (.bl _)⟩
    | false =>
      rw [e, Bool.false_and] at q
      exact q _ _ _ (w2.trans w3) (.bl _)
/-! ### t[::-1], t a tuple -/
theorem places_back (n : Nat) : Builtin.Slice.slicePlaces ((n : Int) - 1) (-1) (-1) = n := by
  unfold Builtin.Slice.slicePlaces
  rw [if_neg (by decide)]
  by_cases h : n = 0
  · subst h; decide
  · rw [if_pos (by omega)]
    have : ((n : Int) - 1 - -1 - 1) / (- -1) + 1 = n := by
      rw [show (- -1 : Int) = 1 from rfl, Int.ediv_one]; omega
    rw [this]; exact Int.toNat_natCast n
theorem pick_back (xs : List Value) : ((List.range xs.length).filterMap fun (m : Nat) => xs.toArray[(((xs.length : Int) - 1) + (m : Int) * (-1)).toNat]?).toArray = xs.reverse.toArray := by
  congr 1
  apply List.ext_getElem?
  intro i
  have key : ∀ n, n ≤ xs.length → (List.range n).filterMap (fun (m : Nat) => xs.toArray[(((xs.length : Int) - 1) + (m : Int) * (-1)).toNat]?) = xs.reverse.take n := by
    intro n hn
    induction n with
    | zero => simp
    | succ n ih =>
      rw [List.range_succ, List.filterMap_append, ih (by omega), List.take_add_one]
      congr 1
      have e : (((xs.length : Int) - 1) + (n : Int) * (-1)).toNat = xs.length - 1 - n := by omega
      simp only [List.filterMap_cons, List.filterMap_nil, e]
      rw [List.getElem?_reverse (by omega)]
      have hq : xs.toArray[xs.length - 1 - n]? = xs[xs.length - 1 - n]? := by simp
      rw [hq]
      cases xs[xs.length - 1 - n]? <;> rfl
  rw [key _ (Nat.le_refl _), List.take_of_length_le (by simp)]
end
section
variable {prog : Program} {w : World} {A : Around} {E : Value → Shared → Prop} {s : Shared}
theorem applied_back {sl : Addr} {u : Tok} {n : Nat} {Q : Int × Int × Nat → Shared → Prop} (hs : s.heap.IsSliceOf sl .none .none (.int (-1) u)) (h : Q ((n : Int) - 1, -1, n) s) :
    wpAny (model prog w) A (Builtin.Slice.sliceApplied (.ref sl) (pure (n : Int))) Q E s := by
  obtain ⟨os, hos, hcs, hds⟩ := id hs
  unfold Builtin.Slice.sliceApplied Builtin.Slice.sliceFields
  refine wpAny_bind (wpAny_bind (wpAny_field hos hds (x := .none) rfl (wpAny_bind
    (wpAny_field hos hds (x := .none) rfl (wpAny_bind (wpAny_field hos hds (x := .int (-1) u) rfl (wpAny_pure ?_)))))))
  refine wpAny_bind (slicePart_int ?_)
  show wpAny _ _ (if ((-1 : Int) == 0) = true then _ else _) _ _ s
  rw [if_neg (by decide)]
  refine wpAny_bind (slicePart_none (wpAny_bind
    (slicePart_none (wpAny_bind (wpAny_pure ?_)))))
  show wpAny _ _ (pure ((n : Int) - 1, (-1 : Int), Builtin.Slice.slicePlaces ((n : Int) - 1) (-1) (-1))) _ _ s
  rw [places_back]
  exact wpAny_pure h
theorem item_back {t sl : Addr} {its : List Value} {u : Tok} {Q : Value → Shared → Prop} (ht : IsTup s.heap t its.toArray) (hs : s.heap.IsSliceOf sl .none .none (.int (-1) u)) (hsz : its.length ≤ sizeLine)
    (h : Q (.ref s.heap.objs.size) { s with heap := s.heap.push { cls := .type "tuple", data := .seq its.reverse.toArray } }) :
    wpAny (model prog w) A (getItem (.ref t) (.ref sl)) Q E s := by
  have hz : sizeOk (.seq its.reverse.toArray) := by
    show its.reverse.toArray.size ≤ sizeLine
    rw [List.size_toArray, List.length_reverse]; exact hsz
  obtain ⟨os, hos, hcs, hds⟩ := id hs
  have hT : s.TypeIs (.ref sl) "slice" := ⟨os, hos, hcs⟩
  unfold getItem
  try with_reducible refine wpAny_holding ?_
  first
    | refine wpAny_bind (wpAny_pure ?_)
    | skip
  refine wpAny_bind (wpAny_sequenceKey ht.typeIs (by decide) ?_)
  refine wpAny_bind (wpAny_callSpecial?_slot (name := Str.ofString "__getitem__")
    ht.typeIs PyProof.Rows.slot_tuple_getitem (wpAny_call_entry
      PyProof.Rows.slot_tuple_getitem ht.typeIs PyProof.Rows.entry_tuple_getitem ?_ (PyProof.Rows.args_tuple_getitem _ _)))
  show wpAny _ _ (Builtin.Tuple.tupleItemsOf (.ref t) >>= _) _ _ s
  refine wpAny_bind (tupleItemsOf_ ht ?_)
  refine wpAny_bind (wpAny_typeOf hT ?_)
  rw [if_pos (by decide)]
  refine wpAny_bind (applied_back (n := its.toArray.size) hs ?_)
  have hno : ¬ ((((its.toArray.size : Int) - 1) == 0 && (-1 : Int) == 1 && its.toArray.size == its.toArray.size) = true) := by
    intro q
    rw [Bool.and_eq_true, Bool.and_eq_true] at q
    exact absurd q.1.2 (by decide)
  show wpAny _ _ (if (((its.toArray.size : Int) - 1) == 0 && (-1 : Int) == 1 && its.toArray.size == its.toArray.size) = true then _ else _) _ _ s
  rw [if_neg hno, List.size_toArray, pick_back]
  first
    | exact wpAny_bind (m := Builtin.Tuple.tupleExact _)
        (wpAny_newObj_type (wpAny_pure ⟨_, rfl, wpAny_pure h⟩) hz)
    | exact wpAny_bind (wpAny_bind (m := Builtin.Tuple.tupleExact _)
        (wpAny_newObj_type (wpAny_pure (wpAny_pure ⟨_, rfl, wpAny_pure h⟩)) hz))
    | exact wpAny_bind (m := Builtin.Tuple.tupleExact _)
        (wpAny_newObj_type (wpAny_bind (wpAny_pure (wpAny_pure ⟨_, rfl, wpAny_pure h⟩))) hz)
end
section
variable {X : Cx} {K : Fg} {σ : L2.St} {G H : Hp}
def tRevT (K : Fg) (te : TE) : TE := fun σ H Q => te σ H fun x H1 => ∃ a xs, x = .ref a ∧ SqT K H1 a xs ∧ ∀ p, H1 p = none → Q (.ref p) (upd H1 p (.tup xs.reverse))
theorem pe_revT {e : Expr} {te : TE} {k : Nat} {p1 p2 p3 pos : Pos} (he : PE X e te) :
    PE X (.Subscript e (.Slice none none (some (.UnaryOp .USub (.Constant (.int 1) k p1) p2)) p3) pos) (tRevT X.K te) := by
  refine ⟨fun pins s σ H Q I h => ?_⟩
  refine Subscript_ (thn (he.run pins s σ H _ I h) fun v sa ⟨x, Ha, Ia, ra, qa⟩ => ?_)
  obtain ⟨a, xs, ex, hx, q⟩ := qa
  subst ex
  cases ra
  have hst : PO X (some (.UnaryOp .USub (.Constant (.int 1) k p1) p2))
      (tPart (tUn (rU fun i => .int (-i)) (tC (.int 1)))) := po_some (pe_un un_neg pe_int)
  refine wpAny_Slice (thn (po_none.run pins sa σ Ha (fun o Hb => o = none ∧ Hb = Ha) Ia ⟨rfl, rfl⟩)
    fun vl sb ⟨l, Hb, Ib, pl, el, eb⟩ => ?_)
  subst el eb
  refine thn (po_none.run pins sb σ Hb (fun o Hc => o = none ∧ Hc = Hb) Ib ⟨rfl, rfl⟩)
    fun vu sc ⟨u, Hc, Ic, pu, eu, ec⟩ => ?_
  subst eu ec
  refine thn (hst.run pins sc σ Hc (fun o Hd => o = some (-1) ∧ Hd = Hc) Ic ⟨1, rfl, -1, rfl, rfl, rfl⟩)
    fun vs sd ⟨o, Hd, Id, ps, eo, ed⟩ => ?_
  subst eo ed
  cases pl
  cases pu
  cases ps with
  | int _ tk =>
    have J : Inv X pins σ Hd { sd with heap := sd.heap.push { cls := .type "slice", data := .fields #[.none, .none, .int (-1) tk] } } :=
      Id.kept (t' := sd.toks) fun b ob qq => Heap.get?_push_of_some _ qq
    obtain ⟨its, r, ht, hz⟩ := J.tuple hx
    have hlen := r.length
    show wpAny (model X.prog X.w) X.A (subscriptTail e (.Slice none none (some (.UnaryOp .USub (.Constant (.int 1) k p1) p2)) p3)
      (.ref a) (.ref sd.heap.objs.size)) (EP X pins σ Q) X.xe
      { sd with heap := sd.heap.push { cls := .type "slice", data := .fields #[.none, .none, .int (-1) tk] } }
    refine tail_any (ops := [.ref a, .ref sd.heap.objs.size]) ht.typeIs
      (PyProof.Rows.slot_tuple_getitem.lookup) ?_ (by with_unfolding_all rfl)
    refine item_back ht (Heap.IsSliceOf.new ..) (by omega) ?_
    refine ⟨.ref _, _, J.laid (t' := sd.toks) (o := .tup xs.reverse)
      (fun b ob qq => Heap.get?_push_of_some _ qq) (Nat.le_refl _) ?_, rfl, q _ (J.hok.fresh (Nat.le_refl _))⟩
    exact ⟨by rw [List.length_reverse]; exact hz, _, r.reverse, IsTup.new _ _⟩
theorem ed_revT {ta : TE} {ds : List D} (ha : EvD K ta σ G H (.tuple ds)) : EvD K (tRevT K ta) σ G H (.tuple ds.reverse) := fun G1 H1 w Q q =>
  ha G1 H1 w _ fun x G2 H2 w2 hx => by
    cases hx with
    | tup hs hl => exact ⟨_, _, rfl, sqt_up w2.b hs, fun p hp => q _ _ _ (w2.trans (Wk.new w2.b hp)) (.tup (SqT.of upd_same) (dpa_rev (dpa_up (Wk.new w2.b hp).g hl)))⟩
end
end L3
namespace L3
open PySem PySem.Spec PyProof.Rows L2
/-! ### errors: all defs may raise, the context of what is raised is None -/
theorem passN {X : Cx} : Passes (L2N.CX X.prog X.w) X E0 := fun _ _ _ _ _ _ _ h => by
  obtain ⟨_, _, _, _, _, _, _, _, _, _, _, _, z⟩ := h
  exact z.elim
theorem takesN {X : Cx} : L2N.Takes X (fun _ _ _ _ => False) := fun _ _ x => by
  obtain ⟨_, _, _, _, _, _, _, _, _, _, _, _, _, _, _, _, z⟩ := x
  exact z.elim
theorem okN {P : Program} {w : World} {K : Fg} {mg : Str → Option Value} {base : Heap} {x qual : Str} {st : Stmt} {f : Addr} {fd : FuncData} {N ps : List Str} {k : Nat} {sp : Sp}
    (F : Fun K x qual st f fd) (S : FnScope N ps (defScope st)) (len : ∀ vs H Q E, sp vs H Q E → vs.length = ps.length)
    (body : ∀ (cdv : Value) (A : Around) (outer : List Env) (s : Shared) (H : Hp) (vs : List V) (Q : VK) (E : XK), Room k (A.deeper (envOfC qual (defScope st) s.heap.objs.size f cdv)) → sp vs H Q E →
      ∃ t, PSs (cxOf (L2N.CX P w) P w K mg base N qual (defScope st) f cdv A outer s H E) (defBody st) t ∧ t { nx := fun _ H' => Q .non H', rt := Q } (start N vs) H) :
    FnOk P w K mg base (L2N.CX P w) (k + 1) f fd ps sp := by
  obtain ⟨oc, od, kV, doc, pm, an, cdv, ct, osl, rfl, lk, hcd⟩ := F.ex
  exact fn_of lk hcd S len fun A outer s H vs Q E hr h => body cdv A outer s H vs Q E hr h
/-- what is known of an own class of errors -/
structure ExcF (K : Fg) (C : Addr) : Prop where
  x : PySem.W.excIn K C [.type "ValueError", .type "Exception", .type "BaseException", .type "object"] "ValueError.__new__" = true
  k : PySem.W.keepIn K (.ref C) = true
  e : ExcC K C
  t : PySem.W.typeIn K (.ref C) = some (.type "type")
theorem ExcF.b {K : Fg} {C : Addr} (h : ExcF K C) : PySem.W.subIn K (.ref C) (.type "BaseException") = some true := h.e.hs
theorem exm_is {K : Fg} {C D : Addr} {b : Bool} (h : ExcF K C) (q : PySem.W.subIn K (.ref D) (.ref C) = some b) : PySem.W.exmOne K (.ref D) (.ref C) = some b := PySem.W.exm_ref h.b h.e.hd h.t q
section
variable {X : Cx} {a : Addr} {oe : Obj} {cls : Value} {d : Option Addr} {pn : List (Addr × Obj)}
/-- isinstance(wrong, C), wrong the error that is handled -/
def tIsE (K : Fg) (cls : Value) (d : Option Addr) (a : Addr) (ta : TA) : TE := fun σ H Q => ∃ D, cls = .ref D ∧ d = none ∧ ExcC K D ∧ ta σ H fun xs H' => rIsE K D a xs H' Q
theorem pe_isE {x : Str} {p pos : Pos} {e : Expr} {es : List Expr} {t : TA} (hz : L2N.Zn cls d oe) (hf : ∃ vs, oe.data = .fields vs) (hg : Gl (X.suite a ((a, oe) :: pn)) x) (hm : (X.suite a ((a, oe) :: pn)).mg x = none) (hv : bootBuiltins x = some (.builtin "isinstance"))
    (ha : PA (X.suite a ((a, oe) :: pn)) (e :: es) t) (hn : x ≠ "__name__" := by decide) (hdb : (x == ("__debug__" : Str)) = false := by decide)
    (he : starEach (e :: es) (X.suite a ((a, oe) :: pn)).env = (false, eval e (X.suite a ((a, oe) :: pn)).env) :: starEach es (X.suite a ((a, oe) :: pn)).env := by rfl)
    (hpl : (backTo pos (starEach es (X.suite a ((a, oe) :: pn)).env)).any (·.1) = false := by rfl) :
    PE (X.suite a ((a, oe) :: pn)) (.Call (.Name x p) (e :: es) [] pos) (tIsE X.K cls d a t) := ⟨fun pins s σ H Q I h => by
  obtain ⟨D, e1, e2, C, q⟩ := h
  subst e1 e2
  exact (pe_callB (call_isE C hz.zc hf) hg hm hv ha hn hdb he hpl).run pins s σ H Q I q⟩
end
/-! ### a comprehension within an except suite -/
abbrev blkH (X : Cx) (s : Shared) (H : Hp) (sc : Scope) (ce : Env) (fp : List Addr) (p0 : Addr × Obj) : Cx := (X.blk s H sc ce fp).tr [p0] (fun _ _ => False)
theorem pe_lcH {X : Cx} {p0 : Addr × Obj} {elt tg iter : Expr} {ifs : List Expr} {scope : Scope} {own : List (Str × Nat)} {pos : Pos} {wi : TI} {g : TG} {tt : TT} {te : TE}
    (hot : L2H.Hot1 X.A p0) (hp0 : p0 ∈ X.pn) (hN : X.N.Nodup) (hi : L2H.PIH X tg iter wi) (ok : BlkOk X.N X.env.scope scope own)
    (hg : ∀ s H C cl fp, PG (blkH X s H scope (compEnvC scope cl C X.env) fp p0) tg g)
    (ht : ∀ s H C cl fp, PTs (blkH X s H scope (compEnvC scope cl C X.env) fp p0) ifs tt)
    (he : ∀ s H C cl fp, PE (blkH X s H scope (compEnvC scope cl C X.env) fp p0) elt te)
    (hs : ∀ x, foldedSetIterable iter X.env x = pure x := by intro _; rfl) :
    PE X (.ListComp elt [⟨tg, iter, ifs, 0⟩] scope pos) (tLc wi g tt te (own.map (·.2))) := by
  refine ⟨fun pins s σ H Q I h => ?_⟩
  rw [eval_ListComp]
  have hfree : ∀ y ∈ scope.names, y.2 = .free → ∃ c, X.env.cells.lookup y.1 = some c := fun y hy e =>
    (ok.free y hy e).elim (fun k => I.ok.has _ (.inl k)) fun k => I.ok.has _ (.inr k)
  refine wpAny_comprehension_free (use := none) rfl hs (closure_ok hfree) ok.kind
    (fun y hy e => by rw [ok.uniq y hy, e]) (thn (hi.run pins s σ H _ I h) fun xv s1 hx => thn hx fun itv s2 h2 => ?_)
  obtain ⟨it, fp, tn, J, H2, e, I2, T, st2, f2, q⟩ := h2
  subst e
  refine wpAny_newObj_type (newEnv_comp ?_) (by show 0 ≤ sizeLine; decide)
  generalize hD : s2.heap.objs.size = Dl
  have hDn : H2 Dl = none := I2.hok.fresh (Nat.le_of_eq hD)
  obtain ⟨W, ⟨m0, w0⟩, turn⟩ := q Dl hDn
  generalize hs3 : ({ s2 with heap := (s2.heap.push (⟨.type "list", none, .seq ([] : List Value).toArray 0, #[]⟩ : Obj)) } : Shared) = s3
  have I3 : Inv X pins σ (upd H2 Dl (.lst [])) s3 := by
    rw [← hs3]
    refine I2.laid (t' := s2.toks) (fun b o z => Heap.get?_push_of_some _ z) (Nat.le_of_eq hD) ⟨Nat.zero_le _, [], 0, .nil, ?_⟩
    rw [← hD]; exact Heap.get?_push_size _ rfl
  have h3 : s3.heap = s2.heap.push (⟨.type "list", none, .seq ([] : List Value).toArray 0, #[]⟩ : Obj) := by rw [← hs3]
  have lt2 : ∀ b ∈ fp, b < s2.heap.objs.size := fun b hb => (T.obj _ _ st2 b hb).elim fun o z => Heap.lt_size z.1
  have f3 : ∀ b ∈ fp, FpOk X pins (upd H2 Dl (.lst [])) b ∧ b < s3.heap.objs.size := fun b hb =>
    ⟨⟨by rw [upd_ne (by rw [← hD]; exact Nat.ne_of_lt (lt2 b hb))]; exact (f2 b hb).1, (f2 b hb).2⟩,
      by rw [h3, Heap.size_push]; exact Nat.lt_succ_of_lt (lt2 b hb)⟩
  have st3 : tn 0 s3.heap := T.keep _ _ _ st2 fun b _ o z => by rw [h3]; exact Heap.get?_push_of_some _ z
  have I4 := block_start I3 ok hN f3
  have pg := hg s3 (upd H2 Dl (.lst [])) s3.heap.objs.size
    (cellsFrom (s3.heap.objs.size + 1) scope.names (cloFrom X.env.cells scope.names [])) fp
  have pt := ht s3 (upd H2 Dl (.lst [])) s3.heap.objs.size
    (cellsFrom (s3.heap.objs.size + 1) scope.names (cloFrom X.env.cells scope.names [])) fp
  have pe := he s3 (upd H2 Dl (.lst [])) s3.heap.objs.size
    (cellsFrom (s3.heap.objs.size + 1) scope.names (cloFrom X.env.cells scope.names [])) fp
  show codeAny _ _ (.compStart (.ListComp elt [⟨tg, iter, ifs, 0⟩] scope pos) 0 (.ref it) (.ref Dl)
      (compEnvC scope (cellsFrom (s3.heap.objs.size + 1) scope.names (cloFrom X.env.cells scope.names [])) s3.heap.objs.size X.env))
    (compPost (model X.prog X.w) X.A X.xe none _ (.ref Dl) s3.heap.objs.size)
    { s3 with heap := pushCells (s3.heap.push { cls := .type "dict", data := .dict #[] }) scope.names }
  have nfp : ∀ b ∈ fp, (upd H2 Dl (.lst [])) b = none := fun b hb => (f3 b hb).1.1
  have kp : ∀ b o, s3.heap.get? b = some o → (pushCells (s3.heap.push { cls := .type "dict", data := .dict #[] }) scope.names).get? b = some o :=
    fun b o z => pushCells_keeps _ _ _ _ (Heap.get?_push_of_some _ z)
  obtain ⟨z1, z2, z3, z4, z5⟩ := I3.pin p0 (List.mem_append_left _ hp0)
  generalize hce : compEnvC scope (cellsFrom (s3.heap.objs.size + 1) scope.names
    (cloFrom X.env.cells scope.names [])) s3.heap.objs.size X.env = ce at I4 pg pt pe ⊢
  have cL : ce.locals = s3.heap.objs.size := by subst hce; rfl
  generalize hH3 : upd H2 Dl (.lst []) = H3 at I3 I4 pg pt pe w0 nfp f3 z2
  generalize hs4 : ({ s3 with heap := (pushCells (s3.heap.push (⟨.type "dict", none, .dict #[], #[]⟩ : Obj)) scope.names) } : Shared) = s4 at I4 ⊢
  have h4 : s4.heap = pushCells (s3.heap.push { cls := .type "dict", data := .dict #[] }) scope.names := by rw [← hs4]
  have st4 : tn 0 s4.heap := T.keep _ _ _ st3 fun b _ o z => by rw [h4]; exact kp b o z
  have J4 : Inv (blkH X s3 H3 scope ce fp p0) [] (wipe σ (own.map (·.2))) H3 s4 := by
    refine Inv.toTry (X := X.blk s3 H3 scope ce fp) (pins := [p0]) (I4.pins_of fun p hp => ?_) _
    obtain rfl : p = p0 := by simpa using hp
    refine ⟨by rw [h4]; exact kp _ _ z1, z2, ?_, fun hm => ?_, z5⟩
    · show p.1 ≠ ce.locals
      rw [cL]; exact Nat.ne_of_lt (Heap.lt_size z1)
    · rcases List.mem_cons.mp (I3.stkSub p.1 hm) with y | y
      · exact z3 y
      · exact z4 y
  have hotY : L2H.HotC (blkH X s3 H3 scope ce fp p0) := ⟨p0, hot, List.mem_cons_self⟩
  have nz : ∀ b ∈ fp, b ≠ p0.1 := fun b hb y => (f3 b hb).1.2.2.2.2.2 p0 (List.mem_append_left _ hp0) y.symm
  have stat : ∀ {σ' : L2.St} {H' : Hp} {s' : Shared}, Inv (blkH X s3 H3 scope ce fp p0) [] σ' H' s' → (∀ b ∈ fp, H' b = none) →
      ∀ b ∈ fp, FpOk (blkH X s3 H3 scope ce fp p0) [] H' b := fun {σ' H' s'} I' hn b hb =>
    ⟨hn b hb, (I'.ok.exf b hb).1, I'.ok.exfs b hb, .inl hb, fun x c z => (I'.ok.exf b hb).2 x c z, fun p hp => by
      obtain rfl : p = p0 := by simpa using hp
      exact fun y => nz b hb y.symm⟩
  have loop : codeAny (model X.prog X.w) X.A (.compLoop (.ListComp elt [⟨tg, iter, ifs, 0⟩] scope pos) 0 (.ref it) (.ref Dl) ce)
      (compPost (model X.prog X.w) X.A X.xe none (EP X pins σ Q) (.ref Dl) s3.heap.objs.size) s4 := by
    refine compLoop_any (fun n s' => ∃ i H', Inv (blkH X s3 H3 scope ce fp p0) [] (wipe σ (own.map (·.2))) H' s' ∧
      tn i s'.heap ∧ (∀ b ∈ fp, H' b = none) ∧ W i n H') ?_ m0 ⟨0, H3, J4, st4, nfp, w0⟩
    rintro n s5 ⟨i, H5, I5, st5, n5, w5⟩
    rcases turn i n H5 w5 with ⟨stop, qq⟩ | ⟨go, Nx, hNx, step⟩
    · refine thnF (T.done (blkH X s3 H3 scope ce fp p0) rfl rfl rfl hotY i [] s5 _ H5 (fun _ _ => False) I5 (stat I5 n5) st5 stop)
        fun r s6 ⟨hr, I6⟩ => ?_
      subst hr
      have I7 : Inv X pins σ H5 s6 := I3.call' (ch := fp) I6.os I6.base I6.hok I6.bare fun b hb =>
        ⟨(f3 b hb).1.2.2.2.1, (f3 b hb).1.2.1, (f3 b hb).1.2.2.2.2.1, (f3 b hb).1.2.2.2.2.2⟩
      have nC : H5 s3.heap.objs.size = none := by
        have y : H5 ce.locals = none := I6.free
        rw [cL] at y; exact y
      obtain ⟨m, hn, _⟩ := I6.loc
      have hn : s6.heap.Ns ce.locals m := hn
      rw [cL] at hn
      obtain ⟨g0, g1, g2, g3, g4, g5⟩ := I3.fpOk (Nat.le_refl _) nC
      exact ⟨m, hn, fun h'' sb => ⟨.ref Dl, H5, I7.turned (t' := s6.toks) (fun b o hb y => (sb.2 b hb).trans y) g0 g1 g3 g4 g5, rfl, qq⟩⟩
    · refine thnF (T.item (blkH X s3 H3 scope ce fp p0) rfl rfl rfl hotY i [] s5 _ H5 (fun _ _ => False) I5 (stat I5 n5) st5 go)
        fun r s6 ⟨u, hr, h6⟩ => ?_
      subst hr
      refine thnF h6 fun _ s7 ⟨x, H7, I7, r7, y7, st7, n7⟩ => ?_
      have I7' := I7.pinned (stat I7 n7) (T.obj _ _ st7)
      refine thnF (pg.run _ s7 _ H7 x u _ I7' r7 (step x H7 y7))
        fun _ s8 ⟨σ8, H8, I8, hw8, q8⟩ => ?_
      refine thnF (pt.run _ s8 σ8 H8 _ I8 q8) fun b s9 ⟨H9, I9, q9⟩ => ?_
      have fin : ∀ {s' : Shared} {H' : Hp}, Inv (blkH X s3 H3 scope ce fp p0) ([] ++ pinsAt fp s7.heap) σ8 H' s' → Nx H' →
          ∃ m, m < n ∧ ∃ i H', Inv (blkH X s3 H3 scope ce fp p0) [] (wipe σ (own.map (·.2))) H' s' ∧ tn i s'.heap ∧ (∀ b ∈ fp, H' b = none) ∧ W i m H' := fun {s' H'} I' nx => by
        obtain ⟨m', hm, w'⟩ := hNx H' nx
        have pin' : ∀ b ∈ fp, ∀ o, s7.heap.get? b = some o → s'.heap.get? b = some o ∧ H' b = none := fun b hb o y =>
          ⟨(I'.pin (b, o) (List.mem_append_right _ (List.mem_append_right _ (mem_pinsAt hb y)))).1,
            (I'.pin (b, o) (List.mem_append_right _ (List.mem_append_right _ (mem_pinsAt hb y)))).2.1⟩
        have hl : (wipe σ (own.map (·.2))).length = σ8.length := by rw [← hw8, wipe_length]
        refine ⟨m', hm, i + 1, H', (I'.unpinned (pins := [])).weak hl (fun j v y => ?_),
          T.keep _ _ _ st7 fun b hb o y => (pin' b hb o y).1, fun b hb => ?_, w'⟩
        · rw [← hw8] at y; exact (wipe_some y).1
        · exact (T.obj _ _ st7 b hb).elim fun o y => (pin' b hb o y.1).2
      cases b with
      | false =>
        simp only [Bool.false_eq_true, if_false] at q9 ⊢
        exact fin I9 q9
      | true =>
        simp only [if_true] at q9 ⊢
        refine thnF (pe.run _ s9 σ8 H9 _ I9 q9)
          fun z s10 ⟨yv, H10, I10, r10, acc, hD10, hz10, nx⟩ => ?_
        exact app_ok (X := blkH X s3 H3 scope ce fp p0) I10 hD10 hz10 r10 fun s11 I11 => fin I11 nx
  exact codeAny_compStart_list loop (T.self X.A 0 _ _ _ st4 loop)
theorem hot_of {X : Cx} {a : Addr} {oe : Obj} {cls : Value} {d : Option Addr} {pn : List (Addr × Obj)} (hz : L2N.Zn cls d oe) (hf : ∃ vs, oe.data = .fields vs) : L2H.Hot1 (X.suite a ((a, oe) :: pn)).A (a, oe) :=
  hf.elim fun vs e => ⟨rfl, vs, e, hz.2.2 vs e⟩
end L3
namespace L3
open PySem PySem.Spec PyProof.Rows L2
/-! ### isinstance of trees -/
def inInt : D → Bool | .int _ => true | .bool _ => true | _ => false
def inBool : D → Bool | .bool _ => true | _ => false
def inTup : D → Bool | .tuple _ => true | _ => false
def inList : D → Bool | .list _ => true | _ => false
def inStr : D → Bool | .str _ => true | _ => false
theorem kb_int (d : D) : kitB (tyN d) "int" = some (inInt d) := by
  cases d
  · show kitB "NoneType" "int" = some false; decide +kernel
  · show kitB "bool" "int" = some true; decide +kernel
  · show kitB "int" "int" = some true; decide +kernel
  · show kitB "str" "int" = some false; decide +kernel
  · show kitB "list" "int" = some false; decide +kernel
  · show kitB "tuple" "int" = some false; decide +kernel
  · show kitB "dict" "int" = some false; decide +kernel
theorem kb_bool (d : D) : kitB (tyN d) "bool" = some (inBool d) := by
  cases d
  · show kitB "NoneType" "bool" = some false; decide +kernel
  · show kitB "bool" "bool" = some true; decide +kernel
  · show kitB "int" "bool" = some false; decide +kernel
  · show kitB "str" "bool" = some false; decide +kernel
  · show kitB "list" "bool" = some false; decide +kernel
  · show kitB "tuple" "bool" = some false; decide +kernel
  · show kitB "dict" "bool" = some false; decide +kernel
theorem kb_tuple (d : D) : kitB (tyN d) "tuple" = some (inTup d) := by
  cases d
  · show kitB "NoneType" "tuple" = some false; decide +kernel
  · show kitB "bool" "tuple" = some false; decide +kernel
  · show kitB "int" "tuple" = some false; decide +kernel
  · show kitB "str" "tuple" = some false; decide +kernel
  · show kitB "list" "tuple" = some false; decide +kernel
  · show kitB "tuple" "tuple" = some true; decide +kernel
  · show kitB "dict" "tuple" = some false; decide +kernel
theorem kb_list (d : D) : kitB (tyN d) "list" = some (inList d) := by
  cases d
  · show kitB "NoneType" "list" = some false; decide +kernel
  · show kitB "bool" "list" = some false; decide +kernel
  · show kitB "int" "list" = some false; decide +kernel
  · show kitB "str" "list" = some false; decide +kernel
  · show kitB "list" "list" = some true; decide +kernel
  · show kitB "tuple" "list" = some false; decide +kernel
  · show kitB "dict" "list" = some false; decide +kernel
theorem kb_str (d : D) : kitB (tyN d) "str" = some (inStr d) := by
  cases d
  · show kitB "NoneType" "str" = some false; decide +kernel
  · show kitB "bool" "str" = some false; decide +kernel
  · show kitB "int" "str" = some false; decide +kernel
  · show kitB "str" "str" = some true; decide +kernel
  · show kitB "list" "str" = some false; decide +kernel
  · show kitB "tuple" "str" = some false; decide +kernel
  · show kitB "dict" "str" = some false; decide +kernel
/-- a whole number, neither True nor False -/
def isW : D → Bool | .int _ => true | _ => false
def isRow : D → Bool | .list _ => true | .tuple _ => true | _ => false
theorem isW_eq (d : D) : (inInt d && !inBool d) = isW d := by cases d <;> rfl
theorem isRow_eq (d : D) : (inTup d || inList d) = isRow d := by cases d <;> rfl
/-- of one tree -/
def R1 (f : D → Except Addr D) : List D → Except Addr D → Prop := fun ds r => ∃ d, ds = [d] ∧ r = f d
def R2' (f : D → D → Except Addr D) : List D → Except Addr D → Prop := fun ds r => ∃ d e, ds = [d, e] ∧ r = f d e
theorem rpa2 {K : Fg} {G : Hp} {xs : List V} {d e : D} (h : RpA K G xs [d, e]) : ∃ x y, xs = [x, y] ∧ Rp K G x d ∧ Rp K G y e := by
  cases h with
  | cons h1 h2 =>
    cases h2 with
    | cons h2 h3 => cases h3; exact ⟨_, _, rfl, h1, h2⟩
theorem rpa3 {K : Fg} {G : Hp} {xs : List V} {d e f : D} (h : RpA K G xs [d, e, f]) : ∃ x y z, xs = [x, y, z] ∧ Rp K G x d ∧ Rp K G y e ∧ Rp K G z f := by
  cases h with
  | cons h1 h2 =>
    cases h2 with
    | cons h2 h3 =>
      cases h3 with
      | cons h3 h4 => cases h4; exact ⟨_, _, _, rfl, h1, h2, h3⟩
end L3
namespace L3
open PySem PySem.Spec PyProof.Rows L2
/-! ### sum of a tuple of whole numbers -/
section
variable {prog : Program} {w : World} {A : Around} {E : Value → Shared → Prop} {s : Shared} {l : Addr} {its : List Value} {ns : List Int} {Q : Value → Shared → Prop}
theorem sum_tup (hh : A.handled = none) (hl : s.heap.IsTuple l its.toArray) (hi : IntsAre its ns)
    (h : ∀ h' tk t', (∀ b o, s.heap.get? b = some o → h'.get? b = some o) → Q (.int ns.sum t') { s with heap := h', toks := tk }) : wpAny (model prog w) A (call (.builtin "sum") [.ref l]) Q E s := by
  obtain ⟨xs, e⟩ := hi.allInts.items
  have hn : numsOf (intItems xs).toList = ns := by rw [← e]; exact hi.numsOf
  rw [nums_intItems] at hn
  rw [e] at hl
  have hlt : l < s.heap.objs.size := by obtain ⟨_, z, _⟩ := hl; exact Heap.lt_size z
  refine call_sum_walkG (wpAny_pyIter_tuple hl ?_)
  have st : (s.heap.push { cls := .type "tuple_iterator", data := .fields #[.ref l, .int 0 0] }).IsTupleIter s.heap.objs.size l 0 := ⟨_, Heap.get?_push_size _ rfl, rfl, rfl⟩
  refine ⟨_, _, _, _, _, _, numAt xs, rfl, Walks.tuple (A := A.in1) hh _ l (Nat.ne_of_lt hlt) (intItems xs), ⟨st, hl.push _⟩, fun b hb => ?_, (fun _ _ => intItems_at), fun h' tk t' hk => ?_⟩
  · show b < (s.heap.push _).objs.size
    rw [Heap.size_push]
    rcases List.mem_cons.mp hb with rfl | hb
    · exact Nat.lt_succ_self _
    · rcases List.mem_cons.mp hb with rfl | hb
      · exact Nat.lt_succ_of_lt hlt
      · cases hb
  · have := h h' tk t' (fun b o z => hk b o (fun hm => by
      rcases List.mem_cons.mp hm with e1 | hm
      · exact absurd (e1 ▸ Heap.lt_size z) (Nat.lt_irrefl _)
      · cases hm) (Heap.get?_push_of_some _ z))
    rw [show (intItems xs).size = xs.size by simp [intItems], preSum_eq, List.take_of_length_le (by simp), hn]
    exact this
end
section
variable {X : Cx} {K : Fg} {σ : L2.St} {G H : Hp} {ta tb te : TE} {d : D}
def rSumT (K : Fg) : List V → Hp → VK → Prop := fun vs H Q => ∃ (a : Addr) (ns : List Int), vs = [V.ref a] ∧ SqT K H a (ns.map V.int) ∧ Q (.int ns.sum) H
theorem cr_sumT (hc : X.calm = true) : CallR X (.builtin "sum") (rSumT X.K) := by
  intro pins s σ H vs us Q I r h
  obtain ⟨a, ns, rfl, hs, q⟩ := h
  obtain ⟨its, rv, hl, _⟩ := I.tuple hs
  rw [Vals.ref1 r]
  exact sum_tup (I.ok.hd hc) hl rv.ints fun h' tk t' hk => ⟨.int _, H, I.kept hk, ⟨_, rfl⟩, q⟩
theorem ed_sumT {ns : List Int} (ha : EvD K ta σ G H (.tuple (iL ns))) : EvD K (tCB (rSumT K) (tCons ta tNil)) σ G H (.int ns.sum) :=
  ed_b1 ha fun x G1 H1 w hx Q q => by
    cases hx with
    | tup hs hl => exact ⟨_, ns, rfl, dpa_iL hl ▸ sqt_up w.b hs, q _ _ _ (Wk.refl w.b) (.int _)⟩
/-! ### // and % by a positive number -/
theorem ed_modP {i j : Int} (ha : EvD K ta σ G H (.int i)) (hb : EvD K tb σ G H (.int j)) (hc : 0 < j) : EvD K (tOp (rI (fun _ j => 0 < j) fun i j => .int (i % j)) ta tb) σ G H (.int (i % j)) := ed_I (C := fun _ j => 0 < j) ha hb hc fun _ => .int _
theorem ed_divP {i j : Int} (ha : EvD K ta σ G H (.int i)) (hb : EvD K tb σ G H (.int j)) (hc : CDiv i j) : EvD K (tOp (rI CDiv fun i j => .int (i / j)) ta tb) σ G H (.int (i / j)) := ed_I ha hb hc fun _ => .int _
theorem ed_divW {i j : Int} (ha : EvD K ta σ G H (.int i)) (hb : EvD K tb σ G H (.int j)) (hc : CDivW i j) : EvD K (tOp (rI CDivW fun i j => .int (i / j)) ta tb) σ G H (.int (i / j)) := ed_I ha hb hc fun _ => .int _
theorem ed_mulW {i j : Int} (ha : EvD K ta σ G H (.int i)) (hb : EvD K tb σ G H (.int j)) (hc : CMulW i j) : EvD K (tOp (rI CMulW fun i j => .int (i * j)) ta tb) σ G H (.int (i * j)) := ed_I ha hb hc fun _ => .int _
theorem ed_mapT {tl : TE} {j : Nat} {vs : List Nat} {ds : List D} (f : D → D) (h : EvD K tl σ G H (.tuple ds)) (hz : ds.length ≤ 500000) (hw : ∀ v, wipe ((wipe σ vs).set j (some v)) vs = wipe σ vs)
    (he : ∀ d ∈ ds, ∀ v G1 H1, Wk G H G1 H1 → Rp K G1 v d → EvD K te ((wipe σ vs).set j (some v)) G1 H1 (f d)) : EvD K (tLc (iTup K tl) (gName j) tYes te vs) σ G H (.list (ds.map f)) := by
  rw [← fm_true f ds]
  exact ed_lcT _ f h hz fun d hd v G1 H1 w r => turn_n (hw v) (he d hd v G1 H1 w r)
theorem ed_mapL {tl : TE} {j : Nat} {vs : List Nat} {ds : List D} (f : D → D) (h : EvD K tl σ G H (.list ds)) (hz : ds.length ≤ 500000) (hw : ∀ v, wipe ((wipe σ vs).set j (some v)) vs = wipe σ vs)
    (he : ∀ d ∈ ds, ∀ v G1 H1, Wk G H G1 H1 → Rp K G1 v d → EvD K te ((wipe σ vs).set j (some v)) G1 H1 (f d)) : EvD K (tLc (iList K tl) (gName j) tYes te vs) σ G H (.list (ds.map f)) := by
  rw [← fm_true f ds]
  exact ed_lcL _ f h hz fun d hd v G1 H1 w r => turn_n (hw v) (he d hd v G1 H1 w r)
/-- the same over a list or a tuple -/
theorem ed_mapS {tl : TE} {j : Nat} {vs : List Nat} {ds : List D} (f : D → D) (h : EvD K tl σ G H d) (hd : d = .list ds ∨ d = .tuple ds) (hz : ds.length ≤ 500000) (hw : ∀ v, wipe ((wipe σ vs).set j (some v)) vs = wipe σ vs)
    (he : ∀ d ∈ ds, ∀ v G1 H1, Wk G H G1 H1 → Rp K G1 v d → EvD K te ((wipe σ vs).set j (some v)) G1 H1 (f d)) : EvD K (tLc (iSeq K tl) (gName j) tYes te vs) σ G H (.list (ds.map f)) := by
  rcases hd with rfl | rfl
  · exact lcS_l (ed_mapL f h hz hw he)
  · exact lcS_t (ed_mapT f h hz hw he)
theorem ed_lenS {ds : List D} (ha : EvD K ta σ G H d) (hd : d = .list ds ∨ d = .tuple ds) : EvD K (tCB (rLen K) (tCons ta tNil)) σ G H (.int ds.length) := by
  rcases hd with rfl | rfl
  · exact ed_lenL ha
  · exact ed_lenT ha
theorem ed_tupS {ds : List D} (ha : EvD K ta σ G H d) (hd : d = .list ds ∨ d = .tuple ds) : EvD K (tCB (rTupOf K) (tCons ta tNil)) σ G H (.tuple ds) := by
  rcases hd with rfl | rfl
  · exact ed_tupL ha
  · exact ed_tupT ha
theorem ed_listS {ds : List D} (ha : EvD K ta σ G H d) (hd : d = .list ds ∨ d = .tuple ds) : EvD K (tCB (rListOf K) (tCons ta tNil)) σ G H (.list ds) := by
  rcases hd with rfl | rfl
  · exact ed_listL ha
  · exact ed_listT ha
theorem map_bL (g : D → Bool) (ds : List D) : ds.map (fun d => PyData.bool (g d)) = bL (ds.map g) := by
  unfold bL; rw [List.map_map]; rfl
theorem seq_i {t u : TS} {E : Ends} (h : t { E with nx := u E } σ H) : tSeq t u E σ H := h
end
end L3
namespace L3
open PySem PySem.Spec PyProof.Rows L2
/-! ### statements with something behind -/
section
variable {K : Fg} {σ : L2.St} {G H G0 H0 : Hp} {ta tb te tx tl : TE} {tt : TT} {d e : D} {E : Ends} {tu tw tz : TS} {g : TG}
variable (K)
theorem q_if {c : Bool} (b : Same G H) (h : EvB K tt σ G H c) (h1 : c = true → ∀ G1 H1, Wk G H G1 H1 → tu { E with nx := tz E } σ H1) (h2 : c = false → ∀ G1 H1, Wk G H G1 H1 → tw { E with nx := tz E } σ H1) : tSeq (tIfS tt tu tw) tz E σ H := s_if K (E := { E with nx := tz E }) b h h1 h2
theorem q_when {c : Bool} (b : Same G H) (h : EvB K tt σ G H c) (h1 : c = true → ∀ G1 H1, Wk G H G1 H1 → tu { E with nx := tz E } σ H1) (h2 : c = false → ∀ G1 H1, Wk G H G1 H1 → tz E σ H1) : tSeq (tIfS tt tu tNext) tz E σ H := s_if K (E := { E with nx := tz E }) b h h1 h2
theorem s_when {c : Bool} (b : Same G H) (h : EvB K tt σ G H c) (h1 : c = true → ∀ G1 H1, Wk G H G1 H1 → tu E σ H1) (h2 : c = false → ∀ G1 H1, Wk G H G1 H1 → E.nx σ H1) : tIfS tt tu tNext E σ H := s_if K b h h1 h2
theorem q_drop (b : Same G H) (h : EvD K te σ G H d) (q : ∀ G1 H1, Wk G H G1 H1 → tz E σ H1) : tSeq (tDrop te) tz E σ H := s_drop K (E := { E with nx := tz E }) b h q
theorem q_set {i : Nat} (b : Same G H) (h : EvD K te σ G H d) (q : ∀ v G1 H1, Wk G H G1 H1 → Rp K G1 v d → tz E (σ.set i (some v)) H1) : tSeq (tAsg te (gName i)) tz E σ H := s_set K (E := { E with nx := tz E }) b h q
theorem q_setI {i : Nat} {n : Int} (b : Same G H) (h : EvD K te σ G H (.int n)) (q : ∀ G1 H1, Wk G H G1 H1 → tz E (σ.set i (some (.int n))) H1) : tSeq (tAsg te (gName i)) tz E σ H := s_setI K (E := { E with nx := tz E }) b h q
theorem q_par {i j : Nat} {a : TA} {d1 d2 : D} (b : Same G H) (h : EvA K a σ G H [d1, d2]) (q : ∀ x y G1 H1, Wk G H G1 H1 → Rp K G1 x d1 → Rp K G1 y d2 → tz E ((σ.set i (some x)).set j (some y)) H1) : tSeq (tPar i j a) tz E σ H := s_par K (E := { E with nx := tz E }) b h q
theorem q_parI {i j : Nat} {a : TA} {m n : Int} (b : Same G H) (h : EvA K a σ G H [.int m, .int n]) (q : ∀ G1 H1, Wk G H G1 H1 → tz E ((σ.set i (some (.int m))).set j (some (.int n))) H1) : tSeq (tPar i j a) tz E σ H := s_parI K (E := { E with nx := tz E }) b h q
theorem q_two {i j : Nat} {d1 d2 : D} (b : Same G H) (h : EvD K te σ G H (.tuple [d1, d2])) (q : ∀ x y G1 H1, Wk G H G1 H1 → Rp K G1 x d1 → Rp K G1 y d2 → tz E ((σ.set i (some x)).set j (some y)) H1) :
    tSeq (tAsg te (gTup K 2 (gCons (gName i) (gCons (gName j) gNil)))) tz E σ H := s_two K (E := { E with nx := tz E }) b h q
theorem q_twoI {i j : Nat} {m n : Int} (b : Same G H) (h : EvD K te σ G H (.tuple [.int m, .int n])) (q : ∀ G1 H1, Wk G H G1 H1 → tz E ((σ.set i (some (.int m))).set j (some (.int n))) H1) :
    tSeq (tAsg te (gTup K 2 (gCons (gName i) (gCons (gName j) gNil)))) tz E σ H := s_twoI K (E := { E with nx := tz E }) b h q
theorem q_four {i j k l : Nat} {d1 d2 d3 d4 : Int} (b : Same G H) (h : EvD K te σ G H (.tuple [.int d1, .int d2, .int d3, .int d4])) (q : ∀ G1 H1, Wk G H G1 H1 → tz E ((((σ.set i (some (.int d1))).set j (some (.int d2))).set k (some (.int d3))).set l (some (.int d4))) H1) :
    tSeq (tAsg te (gTup K 4 (gCons (gName i) (gCons (gName j) (gCons (gName k) (gCons (gName l) gNil)))))) tz E σ H := s_four K (E := { E with nx := tz E }) b h q
theorem q_new {i : Nat} (b : Same G H) (q : ∀ p, H p = none → tz E (σ.set i (some (.ref p))) (upd H p (.lst []))) : tSeq (tAsg (tLst tNil) (gName i)) tz E σ H := s_new (E := { E with nx := tz E }) b q
theorem q_app {i : Nat} {p : Addr} {xs : List V} (b : Same G H) (hs : σ[i]? = some (some (.ref p))) (gp : G p = none) (hp : H p = some (.lst xs)) (hl : xs.length < 1000000) (h : EvD K te σ G H d)
    (q : ∀ v G1 H1, Wk G H G1 H1 → G1 p = none → H1 p = some (.lst xs) → Rp K G1 v d → tz E σ (upd H1 p (.lst (xs ++ [v])))) : tSeq (tDrop (tBM K "list" rAppend (tVar i) (tCons te tNil))) tz E σ H := s_app K (E := { E with nx := tz E }) b hs gp hp hl h q
theorem q_forT {ds : List D} (Inv : Nat → L2.St → Hp → Hp → Prop) (w0 : Wk G0 H0 G H) (h : EvD K tl σ G H (.tuple ds)) (h0 : ∀ G1 H1, Wk G H G1 H1 → Inv 0 σ G1 H1)
    (hs : ∀ i d v σ' G1 H1, ds[i]? = some d → Rp K G1 v d → Wk G0 H0 G1 H1 → Same G G1 → Inv i σ' G1 H1 → g v σ' H1 fun σ2 H2 => tu { E with nx := Btw G0 H0 G1 (Inv (i + 1)), ct := Btw G0 H0 G1 (Inv (i + 1)), bk := tz E } σ2 H2)
    (hd : ∀ σ' G1 H1, Wk G0 H0 G1 H1 → Same G G1 → Inv ds.length σ' G1 H1 → tz E σ' H1) : tSeq (tFor (iTup K tl) g tu) tz E σ H := s_forT K (E := { E with nx := tz E }) Inv w0 h h0 hs hd
theorem q_forL {ds : List D} (Inv : Nat → L2.St → Hp → Hp → Prop) (w0 : Wk G0 H0 G H) (h : EvD K tl σ G H (.list ds)) (h0 : ∀ G1 H1, Wk G H G1 H1 → Inv 0 σ G1 H1)
    (hs : ∀ i d v σ' G1 H1, ds[i]? = some d → Rp K G1 v d → Wk G0 H0 G1 H1 → Same G G1 → Inv i σ' G1 H1 → g v σ' H1 fun σ2 H2 => tu { E with nx := Btw G0 H0 G1 (Inv (i + 1)), ct := Btw G0 H0 G1 (Inv (i + 1)), bk := tz E } σ2 H2)
    (hd : ∀ σ' G1 H1, Wk G0 H0 G1 H1 → Same G G1 → Inv ds.length σ' G1 H1 → tz E σ' H1) : tSeq (tFor (iList K tl) g tu) tz E σ H := s_forL K (E := { E with nx := tz E }) Inv w0 h h0 hs hd
theorem q_forR1 {a : TA} {n : Int} (Inv : Nat → L2.St → Hp → Hp → Prop) (w0 : Wk G0 H0 G H) (h : EvA K a σ G H [.int n]) (hn : -1000000 ≤ n ∧ n ≤ 1000000) (h0 : ∀ G1 H1, Wk G H G1 H1 → Inv 0 σ G1 H1)
    (hs : ∀ (i : Nat) σ' G1 H1, (i : Int) < n → Wk G0 H0 G1 H1 → Same G G1 → Inv i σ' G1 H1 → g (.int i) σ' H1 fun σ2 H2 => tu { E with nx := Btw G0 H0 G1 (Inv (i + 1)), ct := Btw G0 H0 G1 (Inv (i + 1)), bk := tz E } σ2 H2)
    (hd : ∀ σ' G1 H1, Wk G0 H0 G1 H1 → Same G G1 → Inv n.toNat σ' G1 H1 → tz E σ' H1) : tSeq (tFor (iRng1 a) g tu) tz E σ H := s_forR1 K (E := { E with nx := tz E }) Inv w0 h hn h0 hs hd
theorem q_forR2 {a : TA} {lo n : Int} (Inv : Nat → L2.St → Hp → Hp → Prop) (w0 : Wk G0 H0 G H) (h : EvA K a σ G H [.int lo, .int n]) (hn : -1000000 ≤ n ∧ n ≤ 1000000 ∧ -1000000 ≤ lo ∧ lo ≤ 1000000) (h0 : ∀ G1 H1, Wk G H G1 H1 → Inv 0 σ G1 H1)
    (hs : ∀ (i : Nat) σ' G1 H1, lo + (i : Int) < n → Wk G0 H0 G1 H1 → Same G G1 → Inv i σ' G1 H1 → g (.int (lo + i)) σ' H1 fun σ2 H2 => tu { E with nx := Btw G0 H0 G1 (Inv (i + 1)), ct := Btw G0 H0 G1 (Inv (i + 1)), bk := tz E } σ2 H2)
    (hd : ∀ σ' G1 H1, Wk G0 H0 G1 H1 → Same G G1 → Inv (n - lo).toNat σ' G1 H1 → tz E σ' H1) : tSeq (tFor (iRng2 a) g tu) tz E σ H := s_forR2 K (E := { E with nx := tz E }) Inv w0 h hn h0 hs hd
theorem q_while {m0 : Nat} (Inv : Nat → L2.St → Hp → Hp → Prop) (w0 : Wk G0 H0 G H) (h0 : Inv m0 σ G H)
    (hs : ∀ m σ' G1 H1, Wk G0 H0 G1 H1 → Inv m σ' G1 H1 → ∃ b, EvB K tt σ' G1 H1 b ∧ (b = true → ∀ G2 H2, Wk G1 H1 G2 H2 → Wk G0 H0 G2 H2 →
        tu { E with nx := fun σ3 H3 => ∃ m' G3, m' < m ∧ Wk G0 H0 G3 H3 ∧ Inv m' σ3 G3 H3, ct := fun σ3 H3 => ∃ m' G3, m' < m ∧ Wk G0 H0 G3 H3 ∧ Inv m' σ3 G3 H3, bk := tz E } σ' H2) ∧
      (b = false → ∀ G2 H2, Wk G1 H1 G2 H2 → Wk G0 H0 G2 H2 → tz E σ' H2)) : tSeq (tWhile tt tu) tz E σ H := s_while K (E := { E with nx := tz E }) Inv w0 h0 hs
end
section
variable {K : Fg} {σ : L2.St} {G H : Hp} {ta tb te tx tl : TE} {d e : D} {E : Ends} {tz : TS} {g : TG} {tu : TS}
/-- tuple(x), x an owned list -/
theorem ed_tupO {i : Nat} {p : Addr} {xs : List V} {ds : List D} (hs : σ[i]? = some (some (.ref p))) (hp : H p = some (.lst xs)) (hr : RpA K G xs ds) : EvD K (tCB (rTupOf K) (tCons (tVar i) tNil)) σ G H (.tuple ds) := fun G1 H1 w Q q =>
  ⟨_, hs, p, xs, rfl, .inl ⟨SqL.of (w.h p _ hp), fun l hl => q _ _ _ (Wk.new w.b hl) (.tup (SqT.of upd_same) (dpa_up (w.g.trans (Wk.new w.b hl).g) hr))⟩⟩
theorem ed_lenO {i : Nat} {p : Addr} {xs : List V} (hs : σ[i]? = some (some (.ref p))) (hp : H p = some (.lst xs)) : EvD K (tCB (rLen K) (tCons (tVar i) tNil)) σ G H (.int xs.length) := fun G1 H1 w Q q =>
  ⟨_, hs, p, xs, rfl, .inl (SqL.of (w.h p _ hp)), q _ _ _ (Wk.refl w.b) (.int _)⟩
variable (K)
/-- if c: x = e, x a whole number behind it either way -/
theorem q_ifI {i : Nat} {n : Int} {c : Bool} {tt : TT} (b : Same G H) (h : EvB K tt σ G H c) (h1 : c = true → EvD K te σ G H (.int n)) (h2 : c = false → σ.set i (some (.int n)) = σ)
    (q : ∀ G1 H1, Wk G H G1 H1 → tz E (σ.set i (some (.int n))) H1) : tSeq (tIfS tt (tAsg te (gName i)) tNext) tz E σ H :=
  q_when K b h (fun e G1 H1 w1 => s_setI K w1.b ((h1 e).up w1) fun G2 H2 w2 => q G2 H2 (w1.trans w2)) fun e G1 H1 w1 => by
    have := q G1 H1 w1
    rw [h2 e] at this
    exact this
end
end L3
namespace L3
open PySem PySem.Spec PyProof.Rows L2
/-! ### an owned list that is handed on; the pool from which a law draws -/
structure Wp (a : Addr) (G H G1 H1 : Hp) : Prop where
  g : Same G G1
  b : Same G1 H1
  h : ∀ p o, p ≠ a → H p = some o → H1 p = some o
  n : ∀ p, H p ≠ none → G p = none → G1 p = none
  s : H a ≠ none → H1 a ≠ none
theorem Wk.wp {a : Addr} {G H G1 H1 : Hp} (x : Wk G H G1 H1) : Wp a G H G1 H1 := ⟨x.g, x.b, fun p o _ e => x.h p o e, x.n, fun q => by
  cases e : H a with
  | none => exact absurd e q
  | some o => rw [x.h a o e]; simp⟩
theorem Wp.refl {a : Addr} {G H : Hp} (b : Same G H) : Wp a G H G H := (Wk.refl b).wp
theorem Wp.trans {a : Addr} {G H G1 H1 G2 H2 : Hp} (x : Wp a G H G1 H1) (y : Wp a G1 H1 G2 H2) : Wp a G H G2 H2 :=
  ⟨x.g.trans y.g, y.b, fun p o q e => y.h p o q (x.h p o q e), fun p h1 h2 => y.n p (fun e => by
    by_cases q : p = a
    · subst q; exact x.s h1 e
    · cases e1 : H p with
      | none => exact h1 e1
      | some o => rw [x.h p o q e1] at e; cases e) (x.n p h1 h2), fun q => y.s (x.s q)⟩
theorem Wp.mut {a : Addr} {G H G1 H1 : Hp} {o : HO} (x : Wp a G H G1 H1) (g : G1 a = none) : Wp a G H G1 (upd H1 a o) :=
  ⟨x.g, fun p u e => by rw [upd_ne (ne_of_none e g)]; exact x.b p u e, fun p u q e => by rw [upd_ne q]; exact x.h p u q e, x.n, fun _ => by rw [upd_same]; simp⟩
/-- what Wp leaves where the address was not there before -/
theorem Wp.keep {a p : Addr} {G H G1 H1 : Hp} {o : HO} (x : Wp a G H G1 H1) (hp : H p = some o) (q : p ≠ a) (gp : G p = none) : H1 p = some o ∧ G1 p = none :=
  ⟨x.h p o q hp, x.n p (by rw [hp]; simp) gp⟩
section
variable {K : Fg} {σ : L2.St} {G H G0 H0 : Hp} {ta tb te tx tl : TE} {d e : D} {E : Ends} {tz : TS}
/-- x[j], x an owned list, j written -/
theorem ed_ixO {i : Nat} {p : Addr} {xs : List V} {j : Int} {v : V} (hs : σ[i]? = some (some (.ref p))) (hp : H p = some (.lst xs)) (hj : atI xs j = some v) (hd : Rp K G v d) (hb : EvD K tb σ G H (.int j)) : EvD K (tOp (rIx2 K) (tVar i) tb) σ G H d := fun G1 H1 w Q q =>
  ⟨_, hs, hb G1 H1 w _ fun y G2 H2 w2 hy => by
    cases hy
    exact .inl ⟨p, xs, j, v, rfl, rfl, SqL.of ((w.trans w2).h p _ hp), hj, q v G2 H2 w2 (dp_up (w.g.trans w2.g) hd)⟩⟩
variable (K)
/-- x[j] = e, x an owned list -/
theorem q_put {i : Nat} {p : Addr} {xs : List V} {j : Nat} {z : Int} (b : Same G H) (h : EvD K te σ G H d) (hs : σ[i]? = some (some (.ref p))) (gp : G p = none) (hp : H p = some (.lst xs)) (hz : ixN xs.length z = some j)
    (q : ∀ v G1 H1, Wk G H G1 H1 → G1 p = none → Rp K G1 v d → tz E σ (upd H1 p (.lst (xs.set j v)))) : tSeq (tAsg te (gSub (tVar i) (tC (.int z)) rSetL)) tz E σ H :=
  h G H (Wk.refl b) _ fun v G1 H1 w r => by
    have k := w.keep hp gp
    exact ⟨_, hs, p, xs, z, j, rfl, rfl, k.1, hz, q v G1 H1 w k.2 r⟩
theorem s_put {i : Nat} {p : Addr} {xs : List V} {j : Nat} {z : Int} (b : Same G H) (h : EvD K te σ G H d) (hs : σ[i]? = some (some (.ref p))) (gp : G p = none) (hp : H p = some (.lst xs)) (hz : ixN xs.length z = some j)
    (q : ∀ v G1 H1, Wk G H G1 H1 → G1 p = none → Rp K G1 v d → E.nx σ (upd H1 p (.lst (xs.set j v)))) : tAsg te (gSub (tVar i) (tC (.int z)) rSetL) E σ H :=
  h G H (Wk.refl b) _ fun v G1 H1 w r => by
    have k := w.keep hp gp
    exact ⟨_, hs, p, xs, z, j, rfl, rfl, k.1, hz, q v G1 H1 w k.2 r⟩
end
/-- a list is handed back as an owned one -/
theorem s_retL {K : Fg} {σ : L2.St} {G H : Hp} {ta : TA} {ds : List D} {E : Ends} (b : Same G H) (h : EvA K ta σ G H ds) (q : ∀ vs G1 H1 p, Wk G H G1 H1 → RpA K G1 vs ds → H1 p = none → E.rt (.ref p) (upd H1 p (.lst vs))) (hl : ds.length ≤ 1000000 := by exact Nat.le_of_ble_eq_true rfl) : tRet (tLst ta) E σ H :=
  h G H (Wk.refl b) _ fun vs G1 H1 w hv => ⟨Nat.le_trans (Nat.le_of_eq (dpa_len hv)) (Nat.le_trans hl (by decide)), fun p hp => q vs G1 H1 p w hv hp⟩
/-- a pool stands at a -/
def Pool (K : Fg) (G H : Hp) (a : Addr) : Prop := G a = none ∧ ∃ (c : Addr) (cells : List Int) (i r s : Int), H a = some (.lst [.ref c, .int i, .int r, .int s]) ∧ SqL K G c (cells.map V.int) ∧
  (∀ x ∈ cells, 0 ≤ x) ∧ cells.length ≤ 63 ∧ 0 ≤ i ∧ 0 ≤ r ∧ 0 ≤ s ∧ s < 2147483647
theorem Pool.up {K : Fg} {a : Addr} {G H G1 H1 : Hp} (p : Pool K G H a) (w : Wk G H G1 H1) : Pool K G1 H1 a := by
  obtain ⟨g, c, cells, i, r, s, h, hs, rest⟩ := p
  have k := w.keep h g
  exact ⟨k.2, c, cells, i, r, s, k.1, sql_up w.g hs, rest⟩
/-- drawn below many -/
def spTake (K : Fg) : Sp := fun vs H Q _ => ∃ (G : Hp) (a : Addr) (many : Int), vs = [.ref a, .int many] ∧ Same G H ∧ Pool K G H a ∧ 0 < many ∧ many < 1073741824 ∧
  ∀ d G1 H1, 0 ≤ d → d < many → Wp a G H G1 H1 → Pool K G1 H1 a → Q (.int d) H1
theorem spTake_len {K : Fg} : ∀ vs H Q E, spTake K vs H Q E → vs.length = 2 := fun vs H Q E h => by
  obtain ⟨_, _, _, rfl, _⟩ := h; rfl
/-- one of a list's, a tuple's items -/
def spPick (K : Fg) : Sp := fun vs H Q _ => ∃ (G : Hp) (a : Addr) (x : V) (d : D) (ds : List D), vs = [.ref a, x] ∧ Same G H ∧ Pool K G H a ∧ Rp K G x d ∧ (d = .list ds ∨ d = .tuple ds) ∧ ds ≠ [] ∧ ds.length < 1000000 ∧
  ∀ v e G1 H1, e ∈ ds → Wp a G H G1 H1 → Pool K G1 H1 a → Rp K G1 v e → Q v H1
theorem spPick_len {K : Fg} : ∀ vs H Q E, spPick K vs H Q E → vs.length = 2 := fun vs H Q E h => by
  obtain ⟨_, _, _, _, _, rfl, _⟩ := h; rfl
/-- drawn below a great number -/
def spBelow (K : Fg) : Sp := fun vs H Q _ => ∃ (G : Hp) (a : Addr) (many : Int), vs = [.ref a, .int many] ∧ Same G H ∧ Pool K G H a ∧ 0 < many ∧
  ∀ d G1 H1, 0 ≤ d → d < many → Wp a G H G1 H1 → Pool K G1 H1 a → Q (.int d) H1
theorem spBelow_len {K : Fg} : ∀ vs H Q E, spBelow K vs H Q E → vs.length = 2 := fun vs H Q E h => by
  obtain ⟨_, _, _, rfl, _⟩ := h; rfl
/-- a row as a list or as a tuple -/
def spGiven (K : Fg) : Sp := fun vs H Q _ => ∃ (G : Hp) (a : Addr) (x : V) (d : D) (ds : List D), vs = [.ref a, x] ∧ Same G H ∧ Pool K G H a ∧ Rp K G x d ∧ (d = .list ds ∨ d = .tuple ds) ∧
  ∀ v e G1 H1, (e = .list ds ∨ e = .tuple ds) → Wp a G H G1 H1 → Pool K G1 H1 a → Rp K G1 v e → Q v H1
theorem spGiven_len {K : Fg} : ∀ vs H Q E, spGiven K vs H Q E → vs.length = 2 := fun vs H Q E h => by
  obtain ⟨_, _, _, _, _, rfl, _⟩ := h; rfl
/-- a pool is made -/
def spPool (K : Fg) : Sp := fun vs H Q _ => ∃ (G : Hp) (a : Addr) (ns : List Int), vs = [.ref a] ∧ Same G H ∧ SqL K G a (ns.map V.int) ∧ ns.length ≤ 63 ∧
  ∀ p G1 H1, H p = none → Wk G H G1 H1 → Pool K G1 H1 p → Q (.ref p) H1
theorem spPool_len {K : Fg} : ∀ vs H Q E, spPool K vs H Q E → vs.length = 1 := fun vs H Q E h => by
  obtain ⟨_, _, _, rfl, _⟩ := h; rfl
section
variable {K : Fg} {σ : L2.St} {G H : Hp} {te : TE}
theorem ed_isE {D C a : Addr} {i : Nat} {b : Bool} (hs : σ[i]? = some (some (.ref a))) (hD : ExcC K D) (hk : PySem.W.kitOne K (.ref D) (.ref C) = some b) : EvD K (tIsE K (.ref D) none a (tCons (tVar i) (tCons (tC (.ref C)) tNil))) σ G H (.bool b) := fun G1 H1 w Q q =>
  ⟨D, rfl, rfl, hD, _, hs, .ref C, .ref C, b, rfl, fun u h => h, hk, q _ _ _ (Wk.refl w.b) (.bl _)⟩
theorem eb_truB {b : Bool} (h : EvD K te σ G H (.bool b)) : EvB K (fun σ H Q => te σ H fun x H' => ∃ k, TruV K x H' k ∧ Q k H') σ G H b :=
  eb_tru h fun x G1 H1 b hx Q q => ⟨_, rp_tru b hx (fun s e => by cases e) (fun ds e => by cases e), q⟩
end
end L3
/-! More small rules. -/
namespace L3
open PySem PySem.Spec PyProof.Rows L2
variable {K : Fg} {σ : L2.St} {G H : Hp} {te ta tb tc : TE} {tt : TT} {d e : D}
theorem dpa_rep {xs : List V} {ds : List D} (h : RpA K G xs ds) : ∀ n, RpA K G (List.replicate n xs).flatten (List.replicate n ds).flatten
  | 0 => .nil
  | n + 1 => dpa_app h (dpa_rep h n)
theorem ed_repT {ds : List D} {k : Int} (ha : EvD K ta σ G H (.tuple ds)) (hb : EvD K tb σ G H (.int k)) (hn : ds ≠ []) (h0 : 2 ≤ k) (h1 : k ≤ 1000) (hl : ds.length ≤ 1000) : EvD K (tOp (rRepT K) ta tb) σ G H (.tuple (List.replicate k.toNat ds).flatten) :=
  ed_two ha hb fun x y G1 H1 w hx hy Q q => by
    cases hy
    cases hx with
    | @tup a xs _ hs hr =>
      have e := dpa_len hr
      exact ⟨a, k, xs, rfl, rfl, sqt_up w.b hs, fun z => hn (List.eq_nil_of_length_eq_zero (by rw [← e, z]; rfl)), h0, h1, by omega, fun p hp => q _ _ _ (Wk.new w.b hp) (.tup (SqT.of upd_same) (dpa_rep (dpa_up (Wk.new w.b hp).g hr) _))⟩
/-- [..] * k -/
theorem ed_repL {tas : TA} {ds : List D} {k : Int} (h : EvA K tas σ G H ds) (h0 : 0 ≤ k) (h1 : k ≤ 1000) (hl : ds.length ≤ 1000) : EvD K (tOp rRep (tLst tas) (tC (.int k))) σ G H (.list (List.replicate k.toNat ds).flatten) := fun G1 H1 w Q q =>
  h G1 H1 w _ fun vs G2 H2 w2 hv => by
    have e := dpa_len hv
    refine ⟨by rw [e]; exact Nat.le_trans hl (by decide), fun l hl2 => ?_⟩
    have wl := Wk.new (o := .lst vs) w2.b hl2
    refine ⟨l, k, vs, rfl, rfl, upd_same, by omega, by omega, ?_, fun p hp => ?_⟩
    · have : vs.length * k.toNat ≤ 1000 * 1000 := Nat.mul_le_mul (by omega) (by omega)
      exact Nat.le_trans this (by decide)
    · have wp := Wk.new (o := .lst (List.replicate k.toNat vs).flatten) wl.b hp
      exact q _ _ _ ((w2.trans wl).trans wp) (.lst (SqL.of upd_same) (dpa_rep (dpa_up (wl.g.trans wp.g) hv) _))
/-- {} -/
theorem ed_dnew : EvD K tDNewK σ G H (.dict []) := fun G1 H1 w Q q p hp => q _ _ _ (Wk.new w.b hp) (.dct upd_same .nil)
mutual
theorem eqv_refl : ∀ {d : D}, d.canLay0 = true → PyData.eqv d d = true
  | .none, _ => rfl
  | .bool b, _ => by simp [PyData.eqv]
  | .int i, _ => by simp [PyData.eqv]
  | .str s, _ => by simp [PyData.eqv]
  | .list ds, h => eqvA_refl (ds := ds) h
  | .tuple ds, h => eqvA_refl (ds := ds) h
  | .dict _, h => by cases h
theorem eqvA_refl : ∀ {ds : List D}, PyData.canLayAll0 ds = true → PyData.eqvAll ds ds = true
  | [], _ => rfl
  | d :: ds, h => by
    simp only [PyData.canLayAll0, Bool.and_eq_true] at h
    show (PyData.eqv d d && PyData.eqvAll ds ds) = true
    rw [eqv_refl h.1, eqvA_refl h.2]; rfl
end
end L3
/-! Expressions that draw from a pool: what comes out is told by a set S. -/
namespace L3
open PySem PySem.Spec PyProof.Rows L2
theorem Wp.own {a p : Addr} {G H : Hp} {o : HO} (b : Same G H) (hp : H p = none) : Wp a G H G (upd H p o) := (Wk.own b hp).wp
theorem Wp.new {a p : Addr} {G H : Hp} {o : HO} (b : Same G H) (hp : H p = none) : Wp a G H (upd G p o) (upd H p o) := (Wk.new b hp).wp
/-- an owned object changes, not the pool -/
theorem Wp.mutO {a p : Addr} {G H G1 H1 : Hp} {o : HO} (x : Wp a G H G1 H1) (h0 : H p = none) (g1 : G1 p = none) : Wp a G H G1 (upd H1 p o) :=
  ⟨x.g, fun q u e => by rw [upd_ne (ne_of_none e g1)]; exact x.b q u e, fun q u n e => by rw [upd_ne (ne_of_none e h0)]; exact x.h q u n e, x.n, fun q => by
    by_cases h : a = p
    · subst h; exact absurd h0 q
    · rw [upd_ne h]; exact x.s q⟩
theorem Wp.freeze {a p : Addr} {G H G1 H1 : Hp} {o : HO} (x : Wp a G H G1 H1) (h0 : H p = none) (g1 : G1 p = none) (hp : H1 p = some o) : Wp a G H (upd G1 p o) H1 := by
  refine ⟨fun q u e => ?_, fun q u e => ?_, x.h, fun q h1 h2 => ?_, x.s⟩
  · have e1 := x.g q u e
    rw [upd_ne (ne_of_none e1 g1)]; exact e1
  · unfold upd at e
    split at e
    · rename_i hq; rw [hq, hp]; exact e
    · exact x.b q u e
  · have hq : q ≠ p := fun z => h1 (by rw [z]; exact h0)
    rw [upd_ne hq]; exact x.n q h1 h2
theorem Pool.at {K : Fg} {G H : Hp} {a : Addr} (p : Pool K G H a) : H a ≠ none := by
  obtain ⟨_, c, cells, i, r, s, h, _⟩ := p
  rw [h]; simp
/-- a pool is not changed by what is written elsewhere -/
theorem Pool.mutO {K : Fg} {G H : Hp} {a p : Addr} {o : HO} (h : Pool K G H a) (q : a ≠ p) : Pool K G (upd H p o) a := by
  obtain ⟨g, c, cells, i, r, s, e, rest⟩ := h
  exact ⟨g, c, cells, i, r, s, by rw [upd_ne q]; exact e, rest⟩
theorem Pool.grow {K : Fg} {G H : Hp} {a p : Addr} {o : HO} (h : Pool K G H a) (q : a ≠ p) (gp : G p = none) : Pool K (upd G p o) H a := by
  obtain ⟨g, c, cells, i, r, s, e, hs, rest⟩ := h
  refine ⟨by rw [upd_ne q]; exact g, c, cells, i, r, s, e, sql_up (fun b u e => ?_) hs, rest⟩
  rw [upd_ne (ne_of_none e gp)]; exact e
def EvP (K : Fg) (a : Addr) (te : TE) (σ : L2.St) (G H : Hp) (S : D → Prop) : Prop := ∀ G1 H1, Wp a G H G1 H1 → Pool K G1 H1 a → ∀ Q : VK, (∀ d v G2 H2, S d → Wp a G1 H1 G2 H2 → Pool K G2 H2 a → Rp K G2 v d → Q v H2) → te σ H1 Q
def EbP (K : Fg) (a : Addr) (tt : TT) (σ : L2.St) (G H : Hp) (b : Bool) : Prop := ∀ G1 H1, Wp a G H G1 H1 → Pool K G1 H1 a → ∀ Q : Bool → Hp → Prop, (∀ G2 H2, Wp a G1 H1 G2 H2 → Pool K G2 H2 a → Q b H2) → tt σ H1 Q
def EpA (K : Fg) (a : Addr) (ta : TA) (σ : L2.St) (G H : Hp) (S : List D → Prop) : Prop := ∀ G1 H1, Wp a G H G1 H1 → Pool K G1 H1 a → ∀ Q : List V → Hp → Prop, (∀ ds vs G2 H2, S ds → Wp a G1 H1 G2 H2 → Pool K G2 H2 a → RpA K G2 vs ds → Q vs H2) → ta σ H1 Q
section
variable {K : Fg} {a : Addr} {σ : L2.St} {G H G' H' : Hp} {ta tb te tx tl : TE} {tas : TA} {tt : TT} {d e : D} {S S1 S' : D → Prop}
theorem EvP.up (w : Wp a G H G' H') (h : EvP K a te σ G H S) : EvP K a te σ G' H' S := fun G1 H1 x p Q q => h G1 H1 (w.trans x) p Q q
theorem EvP.to (h : EvP K a te σ G H S) (q : ∀ d, S d → S' d) : EvP K a te σ G H S' := fun G1 H1 x p Q k => h G1 H1 x p Q fun d v G2 H2 s => k d v G2 H2 (q d s)
theorem EpA.to {T T' : List D → Prop} (h : EpA K a tas σ G H T) (q : ∀ d, T d → T' d) : EpA K a tas σ G H T' := fun G1 H1 x p Q k => h G1 H1 x p Q fun d v G2 H2 s => k d v G2 H2 (q d s)
theorem ep_ed (h : ∀ G1 H1, Wp a G H G1 H1 → EvD K te σ G1 H1 d) : EvP K a te σ G H (· = d) := fun G1 H1 w p Q q =>
  h G1 H1 w G1 H1 (Wk.refl w.b) Q fun v G2 H2 w2 hv => q d v G2 H2 rfl w2.wp (p.up w2) hv
theorem ep_int {n : Int} : EvP K a (tC (.int n)) σ G H (· = .int n) := ep_ed fun _ _ _ => ed_int
theorem ep_vI {i : Nat} {n : Int} (h : σ[i]? = some (some (.int n))) : EvP K a (tVar i) σ G H (· = .int n) := ep_ed fun _ _ _ => ed_vI h
theorem ep_var {i : Nat} {v : V} (h : σ[i]? = some (some v)) (hd : Rp K G v d) : EvP K a (tVar i) σ G H (· = d) := ep_ed fun _ _ w => ed_var h (dp_up w.g hd)
theorem ed_cv {v : V} (hd : Rp K G v d) : EvD K (tC v) σ G H d := fun G1 H1 w Q q => q v G1 H1 (Wk.refl w.b) (dp_up w.g hd)
theorem ep_op {R : V → V → Hp → VK → Prop} {S2 : D → D → Prop} (ha : EvP K a ta σ G H S1) (hb : ∀ d, S1 d → EvP K a tb σ G H (S2 d))
    (hr : ∀ x y d e G1 H1, Wp a G H G1 H1 → S1 d → S2 d e → Rp K G1 x d → Rp K G1 y e → ∃ f, S f ∧ EvD K (tOp R (tC x) (tC y)) σ G1 H1 f) : EvP K a (tOp R ta tb) σ G H S := fun G1 H1 w p Q q =>
  ha G1 H1 w p _ fun d x G2 H2 s1 w2 p2 hx => hb d s1 G2 H2 (w.trans w2) p2 _ fun e y G3 H3 s2 w3 p3 hy => by
    obtain ⟨f, sf, hf⟩ := hr x y d e G3 H3 ((w.trans w2).trans w3) s1 s2 (dp_up w3.g hx) hy
    exact hf G3 H3 (Wk.refl w3.b) Q fun v G4 H4 w4 hv => q f v G4 H4 sf ((w2.trans w3).trans w4.wp) (p3.up w4) hv
/-- two whole numbers -/
theorem ep_opI {R : V → V → Hp → VK → Prop} {A B : Int → Prop} {S : D → Prop} (ha : EvP K a ta σ G H fun d => ∃ i, d = .int i ∧ A i) (hb : EvP K a tb σ G H fun d => ∃ i, d = .int i ∧ B i)
    (hr : ∀ i j G1 H1, A i → B j → Wp a G H G1 H1 → ∃ f, S f ∧ EvD K (tOp R (tC (.int i)) (tC (.int j))) σ G1 H1 f) : EvP K a (tOp R ta tb) σ G H S :=
  ep_op (S2 := fun _ d => ∃ i, d = .int i ∧ B i) ha (fun _ _ => hb) fun x y d e G1 H1 w s1 s2 hx hy => by
    obtain ⟨i, rfl, hi⟩ := s1
    obtain ⟨j, rfl, hj⟩ := s2
    cases hx; cases hy
    exact hr i j G1 H1 hi hj w
theorem ep_nil : EpA K a tNil σ G H (· = []) := fun G1 H1 w p Q q => q [] [] G1 H1 rfl (Wp.refl w.b) p .nil
theorem ep_cons {S2 : D → List D → Prop} {T : List D → Prop} (h1 : EvP K a te σ G H S1) (h2 : ∀ d, S1 d → EpA K a tas σ G H (S2 d)) (ht : ∀ d ds, S1 d → S2 d ds → T (d :: ds)) : EpA K a (tCons te tas) σ G H T := fun G1 H1 w p Q q =>
  h1 G1 H1 w p _ fun d x G2 H2 s1 w2 p2 hx => h2 d s1 G2 H2 (w.trans w2) p2 _ fun ds xs G3 H3 s2 w3 p3 hxs => q (d :: ds) (x :: xs) G3 H3 (ht d ds s1 s2) (w2.trans w3) p3 (.cons (dp_up w3.g hx) hxs)
theorem ep_a1 (h1 : EvP K a te σ G H S1) : EpA K a (tCons te tNil) σ G H (fun ds => ∃ d, ds = [d] ∧ S1 d) := ep_cons (S2 := fun _ ds => ds = []) h1 (fun _ _ => ep_nil) fun d ds s1 e => ⟨d, by rw [e], s1⟩
theorem ep_a2 {S2 : D → D → Prop} (h1 : EvP K a ta σ G H S1) (h2 : ∀ d, S1 d → EvP K a tb σ G H (S2 d)) : EpA K a (tCons ta (tCons tb tNil)) σ G H (fun ds => ∃ d e, ds = [d, e] ∧ S1 d ∧ S2 d e) :=
  ep_cons h1 (fun d s => ep_a1 (h2 d s)) fun d ds s1 ⟨e, h, s2⟩ => ⟨d, e, by rw [h], s1, s2⟩
theorem ep_a3 {S2 : D → D → Prop} {S3 : D → D → D → Prop} (h1 : EvP K a ta σ G H S1) (h2 : ∀ d, S1 d → EvP K a tb σ G H (S2 d)) (h3 : ∀ d e, S1 d → S2 d e → EvP K a tx σ G H (S3 d e)) :
    EpA K a (tCons ta (tCons tb (tCons tx tNil))) σ G H (fun ds => ∃ d e f, ds = [d, e, f] ∧ S1 d ∧ S2 d e ∧ S3 d e f) :=
  ep_cons h1 (fun d s => ep_a2 (h2 d s) (fun e s2 => h3 d e s s2)) fun d ds s1 ⟨e, f, h, s2, s3⟩ => ⟨d, e, f, by rw [h], s1, s2, s3⟩
/-- a def of the program is called -/
theorem ep_call {n : Nat} {R : List D → Except Addr D → Prop} {E : XK} {T : List D → Prop} (ha : EpA K a tas σ G H T) (hr : ∀ ds, T ds → ds.length = n ∧ ∃ d, R ds (.ok d) ∧ S d) : EvP K a (tCall (spR K n R) [] E tas) σ G H S := fun G1 H1 w p Q q =>
  ha G1 H1 w p _ fun ds vs G2 H2 s w2 p2 hv => by
    obtain ⟨hn, d, hd, sd⟩ := hr ds s
    show spR K n R (vs ++ []) H2 Q E
    rw [List.append_nil]
    exact ⟨G2, ds, .ok d, w2.b, hv, hn, hd, fun v G3 H3 w3 hv => q d v G3 H3 sd (w2.trans w3.wp) (p2.up w3) hv⟩
theorem ep_take {i : Nat} {many : Int} {E : XK} (hs : σ[i]? = some (some (.ref a))) (hb : EvP K a tb σ G H (· = .int many)) (h0 : 0 < many) (h1 : many < 1073741824) :
    EvP K a (tCall (spTake K) [] E (tCons (tVar i) (tCons tb tNil))) σ G H (fun d => ∃ z : Int, d = .int z ∧ 0 ≤ z ∧ z < many) := fun G1 H1 w p Q q =>
  ⟨_, hs, hb G1 H1 w p _ fun d x G2 H2 s w2 p2 hx => by
    subst s
    cases hx
    exact ⟨G2, a, many, rfl, w2.b, p2, h0, h1, fun z G3 H3 z0 z1 w3 p3 => q _ _ G3 H3 ⟨z, rfl, z0, z1⟩ (w2.trans w3) p3 (.int z)⟩⟩
theorem ep_below {i : Nat} {many : Int} {E : XK} (hs : σ[i]? = some (some (.ref a))) (hb : EvP K a tb σ G H (· = .int many)) (h0 : 0 < many) :
    EvP K a (tCall (spBelow K) [] E (tCons (tVar i) (tCons tb tNil))) σ G H (fun d => ∃ z : Int, d = .int z ∧ 0 ≤ z ∧ z < many) := fun G1 H1 w p Q q =>
  ⟨_, hs, hb G1 H1 w p _ fun d x G2 H2 s w2 p2 hx => by
    subst s
    cases hx
    exact ⟨G2, a, many, rfl, w2.b, p2, h0, fun z G3 H3 z0 z1 w3 p3 => q _ _ G3 H3 ⟨z, rfl, z0, z1⟩ (w2.trans w3) p3 (.int z)⟩⟩
theorem ep_pick {i : Nat} {ds : List D} {E : XK} (hs : σ[i]? = some (some (.ref a))) (hb : EvP K a tb σ G H (· = d)) (hd : d = .list ds ∨ d = .tuple ds) (hn : ds ≠ []) (hl : ds.length < 1000000) :
    EvP K a (tCall (spPick K) [] E (tCons (tVar i) (tCons tb tNil))) σ G H (fun d => d ∈ ds) := fun G1 H1 w p Q q =>
  ⟨_, hs, hb G1 H1 w p _ fun d' x G2 H2 s w2 p2 hx => by
    subst s
    exact ⟨G2, a, x, d', ds, rfl, w2.b, p2, hx, hd, hn, hl, fun v e G3 H3 he w3 p3 hv => q _ _ G3 H3 he (w2.trans w3) p3 hv⟩⟩
theorem ep_given {i : Nat} {T : List D → Prop} {E : XK} (hs : σ[i]? = some (some (.ref a))) (hb : EvP K a tb σ G H (fun d => ∃ ds, (d = .list ds ∨ d = .tuple ds) ∧ T ds)) :
    EvP K a (tCall (spGiven K) [] E (tCons (tVar i) (tCons tb tNil))) σ G H (fun d => ∃ ds, (d = .list ds ∨ d = .tuple ds) ∧ T ds) := fun G1 H1 w p Q q =>
  ⟨_, hs, hb G1 H1 w p _ fun d' x G2 H2 s w2 p2 hx => by
    obtain ⟨ds, hd, ht⟩ := s
    exact ⟨G2, a, x, d', ds, rfl, w2.b, p2, hx, hd, fun v e G3 H3 he w3 p3 hv => q _ _ G3 H3 ⟨ds, he, ht⟩ (w2.trans w3) p3 hv⟩⟩
theorem ep_tup {T : List D → Prop} (h : EpA K a tas σ G H T) (hl : ∀ ds, T ds → ds.length ≤ 1000000) : EvP K a (tTup tas) σ G H (fun d => ∃ ds, d = .tuple ds ∧ T ds) := fun G1 H1 w p Q q =>
  h G1 H1 w p _ fun ds vs G2 H2 s w2 p2 hv => ⟨by rw [dpa_len hv]; exact Nat.le_trans (hl ds s) (by decide), fun l hl => by
    have wn := Wk.new (o := .tup vs) w2.b hl
    exact q _ _ _ _ ⟨ds, rfl, s⟩ (w2.trans wn.wp) (p2.up wn) (.tup (SqT.of upd_same) (dpa_up wn.g hv))⟩
theorem ep_lst {T : List D → Prop} (h : EpA K a tas σ G H T) (hl : ∀ ds, T ds → ds.length ≤ 1000000) : EvP K a (tLst tas) σ G H (fun d => ∃ ds, d = .list ds ∧ T ds) := fun G1 H1 w p Q q =>
  h G1 H1 w p _ fun ds vs G2 H2 s w2 p2 hv => ⟨by rw [dpa_len hv]; exact Nat.le_trans (hl ds s) (by decide), fun l hl => by
    have wn := Wk.new (o := .lst vs) w2.b hl
    exact q _ _ _ _ ⟨ds, rfl, s⟩ (w2.trans wn.wp) (p2.up wn) (.lst (SqL.of upd_same) (dpa_up wn.g hv))⟩
/-- a built-in of one -/
theorem ep_b1 {r : List V → Hp → VK → Prop} (ha : EvP K a ta σ G H S1) (hr : ∀ x d G1 H1, Wp a G H G1 H1 → S1 d → Rp K G1 x d → ∃ f, S f ∧ EvD K (tCB r (tCons (tC x) tNil)) σ G1 H1 f) : EvP K a (tCB r (tCons ta tNil)) σ G H S := fun G1 H1 w p Q q =>
  ha G1 H1 w p _ fun d x G2 H2 s1 w2 p2 hx => by
    obtain ⟨f, sf, hf⟩ := hr x d G2 H2 (w.trans w2) s1 hx
    exact hf G2 H2 (Wk.refl w2.b) Q fun v G4 H4 w4 hv => q f v G4 H4 sf (w2.trans w4.wp) (p2.up w4) hv
theorem ep_tupL {T : List D → Prop} (ha : EvP K a ta σ G H fun d => ∃ ds, d = .list ds ∧ T ds) : EvP K a (tCB (rTupOf K) (tCons ta tNil)) σ G H fun d => ∃ ds, d = .tuple ds ∧ T ds :=
  ep_b1 ha fun x d G1 H1 w s hx => by
    obtain ⟨ds, rfl, t⟩ := s
    exact ⟨_, ⟨ds, rfl, t⟩, ed_tupL (ed_cv hx)⟩
theorem ep_if {b : Bool} {t : TT} (h : EbP K a t σ G H b) (h1 : b = true → EvP K a ta σ G H S) (h2 : b = false → EvP K a tb σ G H S) : EvP K a (tIf t ta tb) σ G H S := fun G1 H1 w p Q q =>
  h G1 H1 w p _ fun G2 H2 w2 p2 => by
    cases b with
    | true => exact h1 rfl G2 H2 (w.trans w2) p2 Q fun d v G3 H3 s w3 p3 => q d v G3 H3 s (w2.trans w3) p3
    | false => exact h2 rfl G2 H2 (w.trans w2) p2 Q fun d v G3 H3 s w3 p3 => q d v G3 H3 s (w2.trans w3) p3
/-! tests -/
theorem bp_eb {b : Bool} (h : ∀ G1 H1, Wp a G H G1 H1 → EvB K tt σ G1 H1 b) : EbP K a tt σ G H b := fun G1 H1 w p Q q =>
  h G1 H1 w G1 H1 (Wk.refl w.b) Q fun G2 H2 w2 => q G2 H2 w2.wp (p.up w2)
theorem bp_val {b : Bool} (h : EvP K a te σ G H (· = .bool b)) : EbP K a (tB te) σ G H b := fun G1 H1 w p Q q => h G1 H1 w p _ fun d v G2 H2 s w2 p2 hv => by
  subst s; cases hv
  exact ⟨b, rfl, q G2 H2 w2 p2⟩
theorem bp_test {b : Bool} (h : EvP K a te σ G H (· = .bool b)) : EbP K a (tTest te) σ G H b := fun G1 H1 w p Q q => h G1 H1 w p _ fun d v G2 H2 s w2 p2 hv => by
  subst s; cases hv
  exact ⟨b, rfl, q G2 H2 w2 p2⟩
theorem bp_truB {b : Bool} (h : EvP K a te σ G H (· = .bool b)) : EbP K a (fun σ H Q => te σ H fun x H' => ∃ k, TruV K x H' k ∧ Q k H') σ G H b := fun G1 H1 w p Q q => h G1 H1 w p _ fun d v G2 H2 s w2 p2 hv => by
  subst s
  exact ⟨_, rp_tru w2.b hv (fun s e => by cases e) (fun ds e => by cases e), q G2 H2 w2 p2⟩
theorem bp_not {t : TT} {b : Bool} (h : EbP K a t σ G H b) : EbP K a (tNot t) σ G H (!b) := fun G1 H1 w p Q q => h G1 H1 w p _ fun G2 H2 w2 p2 => q G2 H2 w2 p2
theorem bp_and {t u : TT} {b c : Bool} (h1 : EbP K a t σ G H b) (h2 : b = true → EbP K a u σ G H c) : EbP K a (tAnd t u) σ G H (b && c) := fun G1 H1 w p Q q => h1 G1 H1 w p _ fun G2 H2 w2 p2 => by
  cases b with
  | true => exact h2 rfl G2 H2 (w.trans w2) p2 Q fun G3 H3 w3 p3 => q G3 H3 (w2.trans w3) p3
  | false => exact q G2 H2 w2 p2
theorem bp_or {t u : TT} {b c : Bool} (h1 : EbP K a t σ G H b) (h2 : b = false → EbP K a u σ G H c) : EbP K a (tOr t u) σ G H (b || c) := fun G1 H1 w p Q q => h1 G1 H1 w p _ fun G2 H2 w2 p2 => by
  cases b with
  | false => exact h2 rfl G2 H2 (w.trans w2) p2 Q fun G3 H3 w3 p3 => q G3 H3 (w2.trans w3) p3
  | true => exact q G2 H2 w2 p2
theorem EbP.to {t : TT} {b c : Bool} (h : EbP K a t σ G H b) (e : b = c) : EbP K a t σ G H c := e ▸ h
/-! comprehensions over range, no test -/
theorem ep_lcR1 {j : Nat} {vs : List Nat} {tas : TA} {P : Int → Prop} {S : D → Prop} (h : EpA K a tas σ G H (fun ds => ∃ hi, ds = [.int hi] ∧ P hi)) (hz : ∀ hi, P hi → -1000000 ≤ hi ∧ hi ≤ 400000) (hw : ∀ v, wipe ((wipe σ vs).set j (some v)) vs = wipe σ vs)
    (he : ∀ (hi i : Int), P hi → 0 ≤ i → i < hi → ∀ G1 H1, Wp a G H G1 H1 → EvP K a te ((wipe σ vs).set j (some (.int i))) G1 H1 S) : EvP K a (tLc (iRng1 tas) (gName j) tYes te vs) σ G H (fun d => ∃ ds, d = .list ds ∧ (∃ hi, P hi ∧ ds.length = hi.toNat) ∧ ∀ d ∈ ds, S d) := fun G1 H1 w p Q q =>
  h G1 H1 w p _ fun ds vv G2 H2 s w2 p2 hv => by
    obtain ⟨hi, rfl, hP⟩ := s
    have hz := hz hi hP
    cases hv with
    | cons h1 h2 =>
      cases h1; cases h2
      refine ⟨hi, rfl, by omega, by omega, fun Dl hD => ?_⟩
      have hne : a ≠ Dl := fun e => p2.at (by rw [e]; exact hD)
      refine lc_range (fun i H' => ∃ (G' : Hp) (acc : List V) (out : List D), Wp a G2 H2 G' H' ∧ Pool K G' H' a ∧ G' Dl = none ∧ H' Dl = some (.lst acc) ∧ RpA K G' acc out ∧ out.length = i ∧ ∀ d ∈ out, S d)
        ⟨G2, [], [], Wp.own w2.b hD, p2.mutO hne, none_of_same w2.b hD, upd_same, .nil, rfl, fun _ h => nomatch h⟩ (fun i H' hx P => ?_) (fun H' P => ?_)
      · obtain ⟨G', acc, out, w3, p3, g3, h3, r3, l3, s3⟩ := P
        refine ⟨hw _, ?_⟩
        refine (eb_yes (K := K)) G' H' (Wk.refl w3.b) _ fun G4 H4 w4 => ?_
        show te _ H4 _
        refine he hi (0 + i) hP (by omega) (by omega) G4 H4 (((w.trans w2).trans w3).trans w4.wp) G4 H4 (Wp.refl w4.b) (p3.up w4) _ fun d v G5 H5 sd w5 p5 hv => ?_
        have k4 := w4.keep h3 g3
        have k5 := w5.keep k4.1 (fun e => hne e.symm) k4.2
        refine ⟨acc, k5.1, ?_, G5, acc ++ [v], out ++ [d], Wp.mutO ((w3.trans w4.wp).trans w5) hD k5.2, p5.mutO hne, k5.2, upd_same, dpa_snoc (dpa_up (w4.g.trans w5.g) r3) hv, by rw [List.length_append, l3]; rfl, fun d' h' => ?_⟩
        · rw [dpa_len r3, l3]; exact Nat.lt_of_lt_of_le (show i < 400000 by omega) (by decide)
        · rcases List.mem_append.mp h' with h' | h'
          · exact s3 d' h'
          · rw [List.mem_singleton.mp h']; exact sd
      · obtain ⟨G', acc, out, w3, p3, g3, h3, r3, l3, s3⟩ := P
        have wf := w3.freeze hD g3 h3
        refine q _ _ _ _ ⟨out, rfl, ⟨hi, hP, l3⟩, s3⟩ (w2.trans wf) (p3.grow hne g3) (.lst (SqL.of upd_same) (dpa_up (fun b o e => ?_) r3))
        rw [upd_ne (ne_of_none e g3)]; exact e
end
section
variable {K : Fg} {a : Addr} {σ : L2.St} {G H G0 H0 : Hp} {ta tb te tx tl : TE} {tas : TA} {tt : TT} {d e : D} {S S1 S' : D → Prop} {E : Ends} {tz tu tw : TS}
variable (K)
theorem sp_ret (b : Same G H) (p : Pool K G H a) (h : EvP K a te σ G H S) (q : ∀ d v G1 H1, S d → Wp a G H G1 H1 → Pool K G1 H1 a → Rp K G1 v d → E.rt v H1) : tRet te E σ H := h G H (Wp.refl b) p _ q
theorem qp_set {i : Nat} (b : Same G H) (p : Pool K G H a) (h : EvP K a te σ G H S) (q : ∀ d v G1 H1, S d → Wp a G H G1 H1 → Pool K G1 H1 a → Rp K G1 v d → tz E (σ.set i (some v)) H1) : tSeq (tAsg te (gName i)) tz E σ H := h G H (Wp.refl b) p _ q
theorem qp_when {c : Bool} (b : Same G H) (p : Pool K G H a) (h : EbP K a tt σ G H c) (h1 : c = true → ∀ G1 H1, Wp a G H G1 H1 → Pool K G1 H1 a → tu { E with nx := tz E } σ H1) (h2 : c = false → ∀ G1 H1, Wp a G H G1 H1 → Pool K G1 H1 a → tz E σ H1) : tSeq (tIfS tt tu tNext) tz E σ H :=
  h G H (Wp.refl b) p _ fun G1 H1 w p1 => by
    cases c with
    | true => exact h1 rfl G1 H1 w p1
    | false => exact h2 rfl G1 H1 w p1
theorem qp_if {c : Bool} (b : Same G H) (p : Pool K G H a) (h : EbP K a tt σ G H c) (h1 : c = true → ∀ G1 H1, Wp a G H G1 H1 → Pool K G1 H1 a → tu { E with nx := tz E } σ H1) (h2 : c = false → ∀ G1 H1, Wp a G H G1 H1 → Pool K G1 H1 a → tw { E with nx := tz E } σ H1) : tSeq (tIfS tt tu tw) tz E σ H :=
  h G H (Wp.refl b) p _ fun G1 H1 w p1 => by
    cases c with
    | true => exact h1 rfl G1 H1 w p1
    | false => exact h2 rfl G1 H1 w p1
theorem sp_when {c : Bool} (b : Same G H) (p : Pool K G H a) (h : EbP K a tt σ G H c) (h1 : c = true → ∀ G1 H1, Wp a G H G1 H1 → Pool K G1 H1 a → tu E σ H1) (h2 : c = false → ∀ G1 H1, Wp a G H G1 H1 → Pool K G1 H1 a → E.nx σ H1) : tIfS tt tu tNext E σ H :=
  h G H (Wp.refl b) p _ fun G1 H1 w p1 => by
    cases c with
    | true => exact h1 rfl G1 H1 w p1
    | false => exact h2 rfl G1 H1 w p1
theorem qp_two {i j : Nat} {R : D → D → Prop} (b : Same G H) (p : Pool K G H a) (h : EvP K a te σ G H fun d => ∃ x y, d = .tuple [x, y] ∧ R x y)
    (q : ∀ d e x y G1 H1, R d e → Wp a G H G1 H1 → Pool K G1 H1 a → Rp K G1 x d → Rp K G1 y e → tz E ((σ.set i (some x)).set j (some y)) H1) : tSeq (tAsg te (gTup K 2 (gCons (gName i) (gCons (gName j) gNil)))) tz E σ H :=
  h G H (Wp.refl b) p _ fun d v G1 H1 s w p1 r => by
    obtain ⟨x, y, rfl, hr⟩ := s
    cases r with
    | tup hs hl =>
      cases hl with
      | cons h1 hl =>
        cases hl with
        | cons h2 hl =>
          cases hl
          exact ⟨_, _, rfl, sqt_up w.b hs, rfl, _, _, rfl, _, _, rfl, rfl, q _ _ _ _ G1 H1 hr w p1 h1 h2⟩
/-- behind a turn of a loop that draws -/
def BtP (K : Fg) (a : Addr) (G0 H0 : Hp) (I : L2.St → Hp → Hp → Prop) : L2.St → Hp → Prop := fun σ' H' => ∃ G', Wp a G0 H0 G' H' ∧ Pool K G' H' a ∧ I σ' G' H'
theorem qp_for {n : Int} {g : TG} (Inv : Nat → L2.St → Hp → Hp → Prop) (w0 : Wp a G0 H0 G H) (p : Pool K G H a) (hn : -1000000 ≤ n ∧ n ≤ 1000000) (h0 : Inv 0 σ G H)
    (hs : ∀ (i : Nat) σ' G1 H1, (i : Int) < n → Wp a G0 H0 G1 H1 → Pool K G1 H1 a → Inv i σ' G1 H1 → g (.int i) σ' H1 fun σ2 H2 => tu { E with nx := BtP K a G0 H0 (Inv (i + 1)), ct := BtP K a G0 H0 (Inv (i + 1)), bk := tz E } σ2 H2)
    (hd : ∀ σ' G1 H1, Wp a G0 H0 G1 H1 → Pool K G1 H1 a → Inv n.toNat σ' G1 H1 → tz E σ' H1) : tSeq (tFor (iRng1 (tCons (tC (.int n)) tNil)) g tu) tz E σ H := by
  refine ⟨n, rfl, by omega, by omega, ?_⟩
  refine for_range (lo := 0) (n := n.toNat) (fun i σ' H' => BtP K a G0 H0 (Inv i) σ' H') ⟨G, w0, p, h0⟩ ?_ ?_
  · rintro i σ' H' hi ⟨G', w1, p1, h1⟩
    rw [Int.zero_add]
    exact hs i σ' G' H' (by omega) w1 p1 h1
  · rintro σ' H' ⟨G', w1, p1, h1⟩
    exact hd σ' G' H' w1 p1 h1
end
end L3
/-! Fractions of two-bridge links: what the program's functions give, in plain Lean. -/
namespace TF
open L3
abbrev D := PySem.PyData
def toInts : List D → Option (List Int)
  | [] => some []
  | .int i :: ds => (toInts ds).map (i :: ·)
  | _ :: _ => none
theorem toInts_iL (ns : List Int) : toInts (iL ns) = some ns := by
  induction ns with
  | nil => rfl
  | cons n ns ih => show (toInts (iL ns)).map (n :: ·) = _; rw [ih]; rfl
theorem toInts_some : ∀ {ds : List D} {ns : List Int}, toInts ds = some ns → ds = iL ns
  | [], ns, h => by cases h; rfl
  | d :: ds, ns, h => by
    cases d with
    | int i =>
      unfold toInts at h
      cases e : toInts ds with
      | none => rw [e] at h; cases h
      | some ms =>
        rw [e] at h; cases h
        rw [toInts_some e]; rfl
    | _ => unfold toInts at h; cases h
theorem toInts_all : ∀ {ds : List D}, (ds.map isW).all id = (toInts ds).isSome
  | [] => rfl
  | d :: ds => by
    cases d with
    | int i =>
      have ih := toInts_all (ds := ds)
      show (true && (ds.map isW).all id) = ((toInts ds).map (i :: ·)).isSome
      rw [ih]; cases toInts ds <;> rfl
    | none => rfl
    | bool b => rfl
    | str s => rfl
    | list xs => rfl
    | tuple xs => rfl
    | dict xs => rfl
def ab (i : Int) : Int := if i < 0 then -i else i
def absSum (ns : List Int) : Int := (ns.map ab).sum
def seqOf : D → Option (List D)
  | .list ds => some ds
  | .tuple ds => some ds
  | _ => none
theorem seqOf_is {d : D} {ds : List D} (h : seqOf d = some ds) : d = .list ds ∨ d = .tuple ds := by
  cases d with
  | list xs => cases h; exact .inl rfl
  | tuple xs => cases h; exact .inr rfl
  | _ => cases h
theorem seqOf_row {d : D} : (seqOf d).isSome = isRow d := by cases d <;> rfl
/-- a row of whole numbers, told -/
def rowOk (d : D) : Option (List Int) :=
  match seqOf d with
  | none => none
  | some ds => if 1 ≤ ds.length ∧ ds.length ≤ 60 then
      match toInts ds with
      | none => none
      | some ns => if absSum ns ≤ 60 then some ns else none
    else none
theorem ab_nn (i : Int) : 0 ≤ ab i := by unfold ab; split <;> omega
theorem absSum_nn : ∀ (ns : List Int), 0 ≤ absSum ns
  | [] => Int.le_refl 0
  | n :: ns => by
    have h1 := ab_nn n
    have h2 := absSum_nn ns
    show 0 ≤ (ab n :: ns.map ab).sum
    rw [List.sum_cons]; unfold absSum at h2; omega
theorem absSum_mem : ∀ {ns : List Int} {n : Int}, n ∈ ns → ab n ≤ absSum ns
  | m :: ns, n, h => by
    have h1 := ab_nn m
    have h2 := absSum_nn ns
    show ab n ≤ (ab m :: ns.map ab).sum
    rw [List.sum_cons]
    rcases List.mem_cons.mp h with rfl | h
    · unfold absSum at h2; omega
    · have := absSum_mem h
      unfold absSum at this h2; omega
theorem rowOk_some {d : D} {ns : List Int} (h : rowOk d = some ns) : (d = .list (iL ns) ∨ d = .tuple (iL ns)) ∧ 1 ≤ ns.length ∧ ns.length ≤ 60 ∧ absSum ns ≤ 60 := by
  unfold rowOk at h
  cases e : seqOf d with
  | none => rw [e] at h; cases h
  | some ds =>
    rw [e] at h
    simp only at h
    split at h
    · rename_i hl
      cases e2 : toInts ds with
      | none => rw [e2] at h; cases h
      | some ms =>
        rw [e2] at h
        simp only at h
        split at h
        · cases h
          have := toInts_some e2
          subst this
          have hl' : (iL ns).length = ns.length := by simp [iL]
          rw [hl'] at hl
          exact ⟨seqOf_is e, hl.1, hl.2, by assumption⟩
        · cases h
    · cases h
theorem rowOk_ab {d : D} {ns : List Int} (h : rowOk d = some ns) {n : Int} (hn : n ∈ ns) : ab n ≤ 60 := Int.le_trans (absSum_mem hn) (rowOk_some h).2.2.2
def fold1 (ns : List Int) : Int × Int := ns.foldr (fun part pq => (part * pq.1 + pq.2, pq.1)) (1, 0)
def norm1 (pq : Int × Int) : Int × Int := if pq.1 < 0 then (-pq.1, -pq.2) else pq
/-- the fraction of a row -/
def fracOf (ns : List Int) : Int × Int :=
  let pq := norm1 (fold1 ns)
  if pq.1 ≠ 0 then (pq.1, pq.2 % pq.1) else (0, 1)
def tupI (pq : Int × Int) : D := .tuple [.int pq.1, .int pq.2]
/-- is it a fraction that is let -/
def okFrac (p q : D) : Option (Int × Int) :=
  match p, q with
  | .int p, .int q => if 0 ≤ p ∧ p ≤ 1000000000 ∧ (p = 0 → q = 1) ∧ (0 < p → 0 ≤ q ∧ q < p ∧ Nat.gcd p.natAbs q.natAbs = 1) then some (p, q) else none
  | _, _ => none
theorem okFrac_int (p q : Int) : okFrac (.int p) (.int q) = if 0 ≤ p ∧ p ≤ 1000000000 ∧ (p = 0 → q = 1) ∧ (0 < p → 0 ≤ q ∧ q < p ∧ Nat.gcd p.natAbs q.natAbs = 1) then some (p, q) else none := rfl
def okSigned (p e : D) : Option (Int × Int) :=
  match p, e with
  | .int p, .int e => if 1 ≤ p ∧ p ≤ 1000000000 ∧ ab e < p ∧ Nat.gcd p.natAbs e.natAbs = 1 ∧ ¬ (p + e) % 2 = 0 then some (p, e) else none
  | _, _ => none
theorem okSigned_int (p e : Int) : okSigned (.int p) (.int e) = if 1 ≤ p ∧ p ≤ 1000000000 ∧ ab e < p ∧ Nat.gcd p.natAbs e.natAbs = 1 ∧ ¬ (p + e) % 2 = 0 then some (p, e) else none := rfl
/-- the regular row, by n steps at most -/
def reg : Nat → Int → Int → List Int
  | 0, _, _ => []
  | n + 1, p, q => if q = 0 then [] else p / q :: reg n q (p % q)
theorem reg_zero : ∀ (n : Nat) (p : Int), reg n p 0 = []
  | 0, _ => rfl
  | n + 1, p => by show (if (0 : Int) = 0 then [] else _) = []; rw [if_pos rfl]
theorem reg_pos {n : Nat} {p q : Int} (h : q ≠ 0) : reg (n + 1) p q = p / q :: reg n q (p % q) := by
  show (if q = 0 then [] else _) = _; rw [if_neg h]
theorem half {q r : Int} (h : 0 < r) (hr : r < q) : 2 * (q % r) < q := by
  have h1 := Int.emod_lt_of_pos q h
  have h2 := Int.emod_nonneg q (show r ≠ 0 by omega)
  have h3 := Int.mul_ediv_add_emod q r
  have h4 : 1 ≤ q / r := by
    have := Int.ediv_le_ediv h (show r ≤ q by omega)
    rwa [Int.ediv_self (by omega)] at this
  have h5 : r * 1 ≤ r * (q / r) := Int.mul_le_mul_of_nonneg_left h4 (by omega)
  omega
theorem reg_log : ∀ (k : Nat) (p q : Int), 0 ≤ q → q < 2 ^ k → ∀ n, 2 * k + 1 ≤ n → reg n p q = reg (2 * k + 1) p q ∧ (reg n p q).length ≤ 2 * k
  | 0, p, q, h0, h1, n, hn => by
    have : q = 0 := by simp at h1; omega
    subst this
    rw [reg_zero, reg_zero]; exact ⟨rfl, by simp⟩
  | k + 1, p, q, h0, h1, n, hn => by
    by_cases hq : q = 0
    · subst hq; rw [reg_zero, reg_zero]; exact ⟨rfl, by simp⟩
    · obtain ⟨n, rfl⟩ : ∃ m, n = m + 2 := ⟨n - 2, by omega⟩
      have r0 := Int.emod_nonneg p hq
      have r1 := Int.emod_lt_of_pos p (show 0 < q by omega)
      rw [show 2 * (k + 1) + 1 = 2 * k + 1 + 1 + 1 by omega, reg_pos (n := n + 1) hq, reg_pos (n := 2 * k + 1 + 1) hq]
      by_cases hr : p % q = 0
      · rw [hr, reg_zero, reg_zero]; exact ⟨rfl, by simp only [List.length_cons, List.length_nil]; omega⟩
      · rw [reg_pos (n := n) hr, reg_pos (n := 2 * k + 1) hr]
        have s0 := Int.emod_nonneg q hr
        have s1 := half (show 0 < p % q by omega) r1
        have h2 : (2 : Int) ^ (k + 1) = 2 ^ k * 2 := Int.pow_succ ..
        obtain ⟨e1, e2⟩ := reg_log k (p % q) (q % (p % q)) s0 (by omega) n (by omega)
        rw [e1] at e2 ⊢
        exact ⟨rfl, by simp only [List.length_cons]; omega⟩
/-- the regular row -/
def regF (p q : Int) : List Int := reg 100 p q
theorem p30 : (2 : Int) ^ 30 = 1073741824 := by decide
theorem regF_is {p q : Int} (h0 : 0 ≤ q) (h1 : q ≤ 1000000000) {n : Nat} (hn : 61 ≤ n) : reg n p q = regF p q := by
  have hq : q < 2 ^ 30 := by rw [p30]; omega
  rw [(reg_log 30 p q h0 hq n hn).1, show regF p q = reg 100 p q from rfl, (reg_log 30 p q h0 hq 100 (by omega)).1]
theorem regF_len {p q : Int} (h0 : 0 ≤ q) (h1 : q ≤ 1000000000) : (regF p q).length ≤ 60 :=
  (reg_log 30 p q h0 (by rw [p30]; omega) 100 (by omega)).2
theorem regF_zero (p : Int) : regF p 0 = [] := reg_zero _ _
theorem regF_pos {p q : Int} (h0 : 0 < q) (h1 : q ≤ 1000000000) : regF p q = p / q :: regF q (p % q) := by
  have r0 := Int.emod_nonneg p (show q ≠ 0 by omega)
  have r1 := Int.emod_lt_of_pos p h0
  rw [← regF_is (n := 100) (by omega) h1 (by omega), reg_pos (n := 99) (by omega), regF_is r0 (by omega) (by omega)]
/-! ### even rows -/
def evPart (p e : Int) : Int := if p.fdiv e % 2 = 1 then p.fdiv e + 1 else p.fdiv e
def evn : Nat → Int → Int → List Int
  | 0, _, _ => []
  | n + 1, p, e => if e = 0 then [] else evPart p e :: evn n e (p - evPart p e * e)
theorem fdiv_spec (p : Int) {e : Int} (h : e ≠ 0) : p = p.fdiv e * e + p.fmod e ∧ (0 < e → 0 ≤ p.fmod e ∧ p.fmod e < e) ∧ (e < 0 → e < p.fmod e ∧ p.fmod e ≤ 0) := by
  refine ⟨?_, fun h => ⟨Int.fmod_nonneg_of_pos p h, Int.fmod_lt_of_pos p h⟩, fun h => ?_⟩
  · have := Int.mul_fdiv_add_fmod p e
    rw [Int.mul_comm]; omega
  · have h1 : p.fmod e = - ((-p).fmod (-e)) := by
      rw [Int.neg_fmod_neg]; omega
    have h2 := Int.fmod_nonneg_of_pos (-p) (show 0 < -e by omega)
    have h3 := Int.fmod_lt_of_pos (-p) (show 0 < -e by omega)
    omega
theorem evPart_even (p e : Int) : evPart p e % 2 = 0 := by
  unfold evPart; split <;> omega
/-- the rest is nearer to 0 than e -/
theorem evPart_rest {p e : Int} (he : e ≠ 0) (hp : (p + e) % 2 = 1) : (p - evPart p e * e).natAbs < e.natAbs ∧ (e + (p - evPart p e * e)) % 2 = 1 := by
  obtain ⟨h1, h2, h3⟩ := fdiv_spec p he
  have he2 := evPart_even p e
  obtain ⟨c, hc⟩ : ∃ c, evPart p e = 2 * c := ⟨evPart p e / 2, by omega⟩
  have hx : evPart p e * e = 2 * (c * e) := by rw [hc, Int.mul_assoc]
  refine ⟨?_, by omega⟩
  have hd : evPart p e = p.fdiv e ∨ evPart p e = p.fdiv e + 1 := by unfold evPart; split <;> simp
  have key : (p - evPart p e * e = p.fmod e) ∨ (p - evPart p e * e = p.fmod e - e) := by
    rcases hd with q | q
    · left; rw [q]; omega
    · right; rw [q, Int.add_mul, Int.one_mul]; omega
  generalize evPart p e * e = y at *
  generalize p.fmod e = r at *
  generalize p.fdiv e * e = z at *
  rcases Int.lt_or_gt_of_ne he with hlt | hgt
  · have := h3 hlt; omega
  · have := h2 hgt; omega
theorem evn_zero : ∀ (n : Nat) (p : Int), evn n p 0 = []
  | 0, _ => rfl
  | n + 1, p => by show (if (0 : Int) = 0 then [] else _) = []; rw [if_pos rfl]
theorem evn_pos {n : Nat} {p e : Int} (h : e ≠ 0) : evn (n + 1) p e = evPart p e :: evn n e (p - evPart p e * e) := by
  show (if e = 0 then [] else _) = _; rw [if_neg h]
theorem evn_big : ∀ (n m : Nat) (p e : Int), (p + e) % 2 = 1 → e.natAbs ≤ n → e.natAbs ≤ m → evn n p e = evn m p e
  | 0, m, p, e, _, hn, _ => by
    have : e = 0 := by omega
    subst this; rw [evn_zero, evn_zero]
  | n + 1, m, p, e, hp, hn, hm => by
    by_cases he : e = 0
    · subst he; rw [evn_zero, evn_zero]
    · obtain ⟨m, rfl⟩ : ∃ k, m = k + 1 := ⟨m - 1, by omega⟩
      obtain ⟨h1, h2⟩ := evPart_rest he hp
      rw [evn_pos he, evn_pos he, evn_big n m e _ h2 (by omega) (by omega)]
/-- the even row, however long -/
def evF (p e : Int) : List Int := evn e.natAbs p e
theorem evF_zero (p : Int) : evF p 0 = [] := rfl
theorem evF_pos {p e : Int} (he : e ≠ 0) (hp : (p + e) % 2 = 1) : evF p e = evPart p e :: evF e (p - evPart p e * e) := by
  obtain ⟨h1, h2⟩ := evPart_rest he hp
  unfold evF
  obtain ⟨k, hk⟩ : ∃ k, e.natAbs = k + 1 := ⟨e.natAbs - 1, by omega⟩
  rw [hk, evn_pos he, evn_big k _ e _ h2 (by omega) (Nat.le_refl _)]
theorem fdiv_bound (p : Int) {e : Int} (he : e ≠ 0) : (p.fdiv e).natAbs ≤ p.natAbs + 1 := by
  obtain ⟨h1, h2, h3⟩ := fdiv_spec p he
  have h4 : (p.fdiv e).natAbs * e.natAbs = (p - p.fmod e).natAbs := by
    rw [← Int.natAbs_mul]; congr 1; omega
  have h5 : (p.fdiv e).natAbs * 1 ≤ (p.fdiv e).natAbs * e.natAbs := Nat.mul_le_mul_left _ (by omega)
  rcases Int.lt_or_gt_of_ne he with hlt | hgt
  · have := h3 hlt
    have h6 : (p - p.fmod e).natAbs ≤ p.natAbs + (e.natAbs - 1) := by omega
    have h7 : ((p.fdiv e).natAbs - 1) * e.natAbs ≤ p.natAbs := by
      rw [Nat.sub_mul, Nat.one_mul, h4]; omega
    have h8 : ((p.fdiv e).natAbs - 1) * 1 ≤ ((p.fdiv e).natAbs - 1) * e.natAbs := Nat.mul_le_mul_left _ (by omega)
    omega
  · have := h2 hgt
    have h6 : (p - p.fmod e).natAbs ≤ p.natAbs + (e.natAbs - 1) := by omega
    have h7 : ((p.fdiv e).natAbs - 1) * e.natAbs ≤ p.natAbs := by
      rw [Nat.sub_mul, Nat.one_mul, h4]; omega
    have h8 : ((p.fdiv e).natAbs - 1) * 1 ≤ ((p.fdiv e).natAbs - 1) * e.natAbs := Nat.mul_le_mul_left _ (by omega)
    omega
/-! ### inverses -/
def invGo : Nat → Int → Int → Int → Int → Int
  | 0, last, _, _, _ => last
  | n + 1, last, here, left, rest => if rest = 0 then last else invGo n here (last - left / rest * here) rest (left - left / rest * rest)
theorem rest_is (left rest : Int) : left - left / rest * rest = left % rest := by
  have := Int.mul_ediv_add_emod left rest
  rw [Int.mul_comm] at this; omega
def invF (p q : Int) : Int := invGo q.toNat 0 1 p q % p
theorem invGo_zero : ∀ (n : Nat) (last here left : Int), invGo n last here left 0 = last
  | 0, _, _, _ => rfl
  | n + 1, last, here, left => by show (if (0 : Int) = 0 then last else _) = last; rw [if_pos rfl]
theorem invGo_pos {n : Nat} {last here left rest : Int} (h : rest ≠ 0) : invGo (n + 1) last here left rest = invGo n here (last - left / rest * here) rest (left - left / rest * rest) := by
  show (if rest = 0 then last else _) = _; rw [if_neg h]
theorem invGo_big : ∀ (n m : Nat) (last here left rest : Int), 0 ≤ rest → rest.toNat ≤ n → rest.toNat ≤ m → invGo n last here left rest = invGo m last here left rest
  | 0, m, last, here, left, rest, h0, hn, hm => by
    have : rest = 0 := by omega
    subst this; rw [invGo_zero, invGo_zero]
  | n + 1, m, last, here, left, rest, h0, hn, hm => by
    by_cases hr : rest = 0
    · subst hr; rw [invGo_zero, invGo_zero]
    · obtain ⟨m, rfl⟩ : ∃ k, m = k + 1 := ⟨m - 1, by omega⟩
      have e := rest_is left rest
      have r0 := Int.emod_nonneg left hr
      have r1 := Int.emod_lt_of_pos left (show 0 < rest by omega)
      rw [invGo_pos hr, invGo_pos hr]
      exact invGo_big n m _ _ _ _ (by omega) (by omega) (by omega)
def invG (last here left rest : Int) : Int := invGo rest.toNat last here left rest
theorem invG_zero (last here left : Int) : invG last here left 0 = last := rfl
theorem invG_pos {last here left rest : Int} (h : 0 < rest) : invG last here left rest = invG here (last - left / rest * here) rest (left - left / rest * rest) := by
  have e := rest_is left rest
  have r0 := Int.emod_nonneg left (show rest ≠ 0 by omega)
  have r1 := Int.emod_lt_of_pos left h
  unfold invG
  obtain ⟨k, hk⟩ : ∃ k, rest.toNat = k + 1 := ⟨rest.toNat - 1, by omega⟩
  rw [hk, invGo_pos (by omega)]
  exact invGo_big _ _ _ _ _ _ (by omega) (by omega) (by omega)
theorem okSigned_some {d e : D} {pq : Int × Int} (h : okSigned d e = some pq) : d = .int pq.1 ∧ e = .int pq.2 ∧ 1 ≤ pq.1 ∧ pq.1 ≤ 1000000000 ∧ ab pq.2 < pq.1 ∧ Nat.gcd pq.1.natAbs pq.2.natAbs = 1 ∧ (pq.1 + pq.2) % 2 = 1 := by
  cases d with
  | int p =>
    cases e with
    | int q =>
      rw [okSigned_int] at h
      split at h
      · cases h; rename_i hh; exact ⟨rfl, rfl, hh.1, hh.2.1, hh.2.2.1, hh.2.2.2.1, by omega⟩
      · cases h
    | _ => cases h
  | _ => cases h
end TF
/-! Trees without dicts, their depth; the greatest common divisor by steps. -/
namespace TF
open L3
mutual
def dep : D → Nat
  | .list ds => depA ds + 1
  | .tuple ds => depA ds + 1
  | _ => 0
def depA : List D → Nat
  | [] => 0
  | d :: ds => max (dep d) (depA ds)
end
theorem dep_mem : ∀ {ds : List D} {d : D}, d ∈ ds → dep d ≤ depA ds
  | e :: ds, d, h => by
    simp only [depA]
    rcases List.mem_cons.mp h with rfl | h
    · omega
    · have := dep_mem h; omega
/-! the longest row in a tree -/
mutual
def wid : D → Nat
  | .list ds => max ds.length (widA ds)
  | .tuple ds => max ds.length (widA ds)
  | _ => 0
def widA : List D → Nat
  | [] => 0
  | d :: ds => max (wid d) (widA ds)
end
theorem wid_mem : ∀ {ds : List D} {d : D}, d ∈ ds → wid d ≤ widA ds
  | e :: ds, d, h => by
    simp only [widA]
    rcases List.mem_cons.mp h with rfl | h
    · omega
    · have := wid_mem h; omega
theorem wid_le (d : D) (ds : List D) (h : seqOf d = some ds) : ds.length ≤ wid d := by
  rcases seqOf_is h with rfl | rfl <;> (simp only [wid]; omega)
theorem lay_mem : ∀ {ds : List D} {d : D}, PySem.PyData.canLayAll0 ds = true → d ∈ ds → d.canLay0 = true
  | e :: ds, d, h, hm => by
    simp only [PySem.PyData.canLayAll0, Bool.and_eq_true] at h
    rcases List.mem_cons.mp hm with rfl | hm
    · exact h.1
    · exact lay_mem h.2 hm
/-- Euclid's steps on a pair of numbers from 0 on -/
theorem gcd_step {x y : Int} (hx : 0 ≤ x) (hy : 0 < y) : Nat.gcd y.natAbs (x % y).natAbs = Nat.gcd x.natAbs y.natAbs := by
  obtain ⟨a, rfl⟩ : ∃ a : Nat, x = a := ⟨x.toNat, by omega⟩
  obtain ⟨b, rfl⟩ : ∃ b : Nat, y = b := ⟨y.toNat, by omega⟩
  have e : ((a : Int) % (b : Int)) = ((a % b : Nat) : Int) := by omega
  rw [e]
  simp only [Int.natAbs_natCast]
  rw [Nat.gcd_comm a b, Nat.gcd_rec b a, Nat.gcd_comm]
end TF
/-! What is true of the rows and inverses of fractions. -/
namespace TF
open L3
/-! ### regular rows -/
theorem fold1_cons (n : Int) (ns : List Int) : fold1 (n :: ns) = (n * (fold1 ns).1 + (fold1 ns).2, (fold1 ns).1) := rfl
theorem gcd_one_zero {p : Int} (h : Nat.gcd p.natAbs (0 : Int).natAbs = 1) : p.natAbs = 1 := by simpa using h
theorem regF_fold : ∀ (n : Nat) (p q : Int), q.toNat < n → 0 ≤ p → 0 ≤ q → q ≤ 1000000000 → Nat.gcd p.natAbs q.natAbs = 1 → fold1 (regF p q) = (p, q)
  | n + 1, p, q, hn, hp, h0, h1, hg => by
    by_cases hq : q = 0
    · subst hq
      have := gcd_one_zero hg
      rw [regF_zero]
      have : p = 1 := by omega
      subst this; rfl
    · have hq0 : 0 < q := by omega
      have r0 := Int.emod_nonneg p hq
      have r1 := Int.emod_lt_of_pos p hq0
      have e := Int.mul_ediv_add_emod p q
      rw [regF_pos hq0 h1, fold1_cons, regF_fold n q (p % q) (by omega) h0 r0 (by omega) (by rw [gcd_step hp hq0]; exact hg)]
      simp only
      rw [show p / q * q = q * (p / q) from Int.mul_comm .., e]
theorem regF_last : ∀ (n : Nat) (p q : Int), q.toNat < n → 1 ≤ q → q < p → q ≤ 1000000000 → Nat.gcd p.natAbs q.natAbs = 1 → ∃ l x, regF p q = l ++ [x] ∧ 2 ≤ x
  | n + 1, p, q, hn, h0, hp, h1, hg => by
    have hq : q ≠ 0 := by omega
    have r0 := Int.emod_nonneg p hq
    have r1 := Int.emod_lt_of_pos p (show 0 < q by omega)
    have e := Int.mul_ediv_add_emod p q
    rw [regF_pos (by omega) h1]
    by_cases hr : p % q = 0
    · rw [hr, regF_zero]
      have hg' := gcd_step (x := p) (y := q) (by omega) (by omega)
      rw [hr, hg] at hg'
      have := gcd_one_zero hg'
      have : q = 1 := by omega
      subst this
      exact ⟨[], p / 1, rfl, by rw [Int.ediv_one]; omega⟩
    · obtain ⟨l, x, hl, hx⟩ := regF_last n q (p % q) (by omega) (by omega) (by omega) (by omega) (by rw [gcd_step (by omega) (by omega)]; exact hg)
      exact ⟨p / q :: l, x, by rw [hl]; rfl, hx⟩
theorem regF_bound : ∀ (n : Nat) (p q B : Int), q.toNat < n → 0 ≤ p → p ≤ B → 0 ≤ q → q ≤ B → q ≤ 1000000000 → ∀ x ∈ regF p q, 0 ≤ x ∧ x ≤ B
  | n + 1, p, q, B, hn, hp, hpB, h0, hqB, h1, x, hx => by
    by_cases hq : q = 0
    · subst hq; rw [regF_zero] at hx; cases hx
    · have r0 := Int.emod_nonneg p hq
      have r1 := Int.emod_lt_of_pos p (show 0 < q by omega)
      rw [regF_pos (by omega) h1] at hx
      rcases List.mem_cons.mp hx with rfl | hx
      · exact ⟨Int.ediv_nonneg hp h0, Int.le_trans (Int.ediv_le_self _ hp) hpB⟩
      · exact regF_bound n q (p % q) B (by omega) h0 hqB r0 (by omega) (by omega) x hx
/-- a regular row leads back -/
theorem regF_frac {p q : Int} (h0 : 0 ≤ q) (h1 : q < p) (h2 : p ≤ 1000000000) (hg : Nat.gcd p.natAbs q.natAbs = 1) : fracOf (regF p q) = (p, q) := by
  unfold fracOf
  have hn : norm1 (fold1 (regF p q)) = (p, q) := by
    rw [regF_fold (q.toNat + 1) p q (by omega) (by omega) h0 (by omega) hg]
    unfold norm1
    simp only
    rw [if_neg (by omega)]
  rw [hn]
  simp only
  rw [if_pos (by omega), Int.emod_eq_of_lt h0 h1]
/-! ### inverses -/
theorem invG_spec (p q : Int) : ∀ (n : Nat) (last here left rest : Int), rest.toNat < n → 0 ≤ left → 0 ≤ rest → Nat.gcd left.natAbs rest.natAbs = 1 → p ∣ last * q - left → p ∣ here * q - rest → p ∣ invG last here left rest * q - 1
  | n + 1, last, here, left, rest, hn, hl, hr, hg, d1, d2 => by
    by_cases h : rest = 0
    · subst h
      have := gcd_one_zero hg
      rw [invG_zero]
      have : left = 1 := by omega
      subst this; exact d1
    · have e := rest_is left rest
      have m0 := Int.emod_nonneg left h
      have m1 := Int.emod_lt_of_pos left (show 0 < rest by omega)
      rw [invG_pos (by omega)]
      refine invG_spec p q n _ _ _ _ (by omega) hr (by omega) (by rw [e, gcd_step hl (by omega)]; exact hg) d2 ?_
      have : (last - left / rest * here) * q - (left - left / rest * rest) = (last * q - left) - left / rest * (here * q - rest) := by
        rw [Int.sub_mul, Int.mul_sub, Int.mul_assoc]; omega
      rw [this]
      exact Int.dvd_sub d1 (Int.dvd_trans d2 (Int.dvd_mul_left _ _))
theorem invF_spec {p q : Int} (hp : 2 ≤ p) (h0 : 0 ≤ q) (hg : Nat.gcd p.natAbs q.natAbs = 1) : 0 < invF p q ∧ invF p q < p ∧ q * invF p q % p = 1 := by
  have d := invG_spec p q (q.toNat + 1) 0 1 p q (by omega) (by omega) h0 hg (by rw [Int.zero_mul, Int.zero_sub]; exact Int.dvd_neg.mpr (Int.dvd_refl p)) (by rw [Int.one_mul, Int.sub_self]; exact Int.dvd_zero p)
  have e : invF p q = invG 0 1 p q % p := rfl
  have m0 := Int.emod_nonneg (invG 0 1 p q) (show p ≠ 0 by omega)
  have m1 := Int.emod_lt_of_pos (invG 0 1 p q) (show 0 < p by omega)
  have k : q * invF p q % p = 1 := by
    rw [e, Int.mul_emod, Int.emod_emod, ← Int.mul_emod, Int.mul_comm]
    have := Int.emod_eq_emod_iff_emod_sub_eq_zero.mpr (Int.emod_eq_zero_of_dvd d)
    rw [this, Int.emod_eq_of_lt (by decide) (by omega)]
  refine ⟨?_, by omega, k⟩
  rcases Int.lt_or_eq_of_le m0 with h | h
  · omega
  · exfalso
    rw [e, ← h, Int.mul_zero, Int.zero_emod] at k
    cases k
/-! ### even rows -/
theorem gcd_natAbs_sub {p e c : Int} : Nat.gcd e.natAbs (p - c * e).natAbs = Nat.gcd p.natAbs e.natAbs := by
  apply Nat.dvd_antisymm
  · refine Nat.dvd_gcd ?_ (Nat.gcd_dvd_left _ _)
    have h1 : ((Nat.gcd e.natAbs (p - c * e).natAbs : Nat) : Int) ∣ e := Int.ofNat_dvd_left.mpr (Nat.gcd_dvd_left _ _)
    have h2 : ((Nat.gcd e.natAbs (p - c * e).natAbs : Nat) : Int) ∣ p - c * e := Int.ofNat_dvd_left.mpr (Nat.gcd_dvd_right _ _)
    have := Int.dvd_add h2 (Int.dvd_trans h1 (Int.dvd_mul_left c e))
    rw [Int.sub_add_cancel] at this
    exact Int.ofNat_dvd_left.mp this
  · refine Nat.dvd_gcd (Nat.gcd_dvd_right _ _) ?_
    have h1 : ((Nat.gcd p.natAbs e.natAbs : Nat) : Int) ∣ p := Int.ofNat_dvd_left.mpr (Nat.gcd_dvd_left _ _)
    have h2 : ((Nat.gcd p.natAbs e.natAbs : Nat) : Int) ∣ e := Int.ofNat_dvd_left.mpr (Nat.gcd_dvd_right _ _)
    exact Int.ofNat_dvd_left.mp (Int.dvd_sub h1 (Int.dvd_trans h2 (Int.dvd_mul_left c e)))
theorem evF_fold : ∀ (n : Nat) (p e : Int), e.natAbs < n → (p + e) % 2 = 1 → Nat.gcd p.natAbs e.natAbs = 1 → fold1 (evF p e) = (p, e) ∨ fold1 (evF p e) = (-p, -e)
  | n + 1, p, e, hn, ho, hg => by
    by_cases he : e = 0
    · subst he
      have := gcd_one_zero hg
      rw [evF_zero]
      have : p = 1 ∨ p = -1 := by omega
      rcases this with rfl | rfl
      · exact .inl rfl
      · exact .inr rfl
    · obtain ⟨r1, r2⟩ := evPart_rest he ho
      rw [evF_pos he ho, fold1_cons]
      rcases evF_fold n e (p - evPart p e * e) (by omega) r2 (by rw [gcd_natAbs_sub]; exact hg) with h | h
      · rw [h]; left
        simp only
        rw [Prod.mk.injEq]; exact ⟨by omega, rfl⟩
      · rw [h]; right
        simp only
        rw [Prod.mk.injEq, Int.mul_neg]; exact ⟨by omega, rfl⟩
theorem evF_frac {p e : Int} (hp : 1 ≤ p) (ho : (p + e) % 2 = 1) (hg : Nat.gcd p.natAbs e.natAbs = 1) : fracOf (evF p e) = (p, e % p) := by
  unfold fracOf
  have hn : norm1 (fold1 (evF p e)) = (p, e) := by
    unfold norm1
    rcases evF_fold (e.natAbs + 1) p e (by omega) ho hg with h | h
    · rw [h]; simp only; rw [if_neg (by omega)]
    · rw [h]; simp only; rw [if_pos (by omega), Int.neg_neg, Int.neg_neg]
  rw [hn]
  simp only
  rw [if_pos (by omega)]
theorem evF_parts : ∀ (n : Nat) (p e : Int), e.natAbs < n → (p + e) % 2 = 1 → e.natAbs < p.natAbs → ∀ x ∈ evF p e, x ≠ 0 ∧ x % 2 = 0 ∧ x.natAbs ≤ p.natAbs + 2
  | n + 1, p, e, hn, ho, hl, x, hx => by
    by_cases he : e = 0
    · subst he; rw [evF_zero] at hx; cases hx
    · obtain ⟨r1, r2⟩ := evPart_rest he ho
      rw [evF_pos he ho] at hx
      rcases List.mem_cons.mp hx with rfl | hx
      · refine ⟨fun h => ?_, evPart_even p e, ?_⟩
        · rw [h, Int.zero_mul] at r1; omega
        · have := fdiv_bound p he
          unfold evPart; split <;> omega
      · obtain ⟨a, b, c⟩ := evF_parts n e (p - evPart p e * e) (by omega) r2 (by omega) x hx
        exact ⟨a, b, by omega⟩
theorem evF_parity : ∀ (n : Nat) (p e : Int), e.natAbs < n → (p + e) % 2 = 1 → ((evF p e).length : Int) % 2 = (p + 1) % 2
  | n + 1, p, e, hn, ho => by
    by_cases he : e = 0
    · subst he; rw [evF_zero]; show (0 : Int) % 2 = _; omega
    · obtain ⟨r1, r2⟩ := evPart_rest he ho
      rw [evF_pos he ho, List.length_cons]
      have := evF_parity n e (p - evPart p e * e) (by omega) r2
      omega
theorem evn_take : ∀ (n : Nat) (p e : Int), (p + e) % 2 = 1 → evn n p e = (evF p e).take n
  | 0, p, e, _ => by simp [evn]
  | n + 1, p, e, ho => by
    by_cases he : e = 0
    · subst he; rw [evn_zero, evF_zero]; rfl
    · obtain ⟨r1, r2⟩ := evPart_rest he ho
      rw [evn_pos he, evF_pos he ho, List.take_succ_cons, evn_take n e _ r2]
theorem evn_whole {p e : Int} (ho : (p + e) % 2 = 1) {n m : Nat} (h : (evn n p e).length ≤ m) (hm : m < n) : evn n p e = evF p e := by
  rw [evn_take n p e ho] at h ⊢
  rw [List.length_take] at h
  exact List.take_of_length_le (by omega)
theorem evn_long {p e : Int} (ho : (p + e) % 2 = 1) {n m : Nat} (h : m < (evn n p e).length) : m < (evF p e).length := by
  rw [evn_take n p e ho, List.length_take] at h; omega
theorem evF_nil {p e : Int} (ho : (p + e) % 2 = 1) (h : evF p e = []) : e = 0 := by
  by_cases he : e = 0
  · exact he
  · rw [evF_pos he ho] at h; cases h
/-! ### trees of numbers -/
theorem lay_iL : ∀ (ns : List Int), PySem.PyData.canLayAll0 (iL ns) = true
  | [] => rfl
  | n :: ns => by
    show (true && PySem.PyData.canLayAll0 (iL ns)) = true
    rw [lay_iL ns]; rfl
theorem depA_iL : ∀ (ns : List Int), depA (iL ns) = 0
  | [] => rfl
  | n :: ns => by
    show max 0 (depA (iL ns)) = 0
    rw [depA_iL ns]; rfl
theorem widA_iL : ∀ (ns : List Int), widA (iL ns) = 0
  | [] => rfl
  | n :: ns => by
    show max 0 (widA (iL ns)) = 0
    rw [widA_iL ns]; rfl
theorem len_iL (ns : List Int) : (iL ns).length = ns.length := by unfold iL; rw [List.length_map]
end TF
namespace K63
open PySem PySem.Spec PyProof.Rows L2 L3
/-! ### the text by its places -/
def topAt (i : Nat) : Stmt := PySem.Challenge.pw_knotproved_k63_whole_fractions_and_rows.main.body.getD i (.Pass ⟨0, 0, 0, 0⟩)
abbrev s_is_whole : Stmt := topAt 4
theorem sc_is_whole : FnScope ["value"] ["value"] (defScope s_is_whole) := ⟨rfl, rfl, rfl, by decide +kernel, rfl, by decide +kernel, by decide +kernel⟩
abbrev s_is_row : Stmt := topAt 5
theorem sc_is_row : FnScope ["value"] ["value"] (defScope s_is_row) := ⟨rfl, rfl, rfl, by decide +kernel, rfl, by decide +kernel, by decide +kernel⟩
abbrev s_told_row : Stmt := topAt 15
theorem sc_told_row : FnScope ["row", "part"] ["row"] (defScope s_told_row) := ⟨rfl, rfl, rfl, by decide +kernel, rfl, by decide +kernel, by decide +kernel⟩
abbrev s_check_fraction : Stmt := topAt 16
theorem sc_check_fraction : FnScope ["p", "q"] ["p", "q"] (defScope s_check_fraction) := ⟨rfl, rfl, rfl, by decide +kernel, rfl, by decide +kernel, by decide +kernel⟩
abbrev s_check_signed : Stmt := topAt 17
theorem sc_check_signed : FnScope ["p", "e"] ["p", "e"] (defScope s_check_signed) := ⟨rfl, rfl, rfl, by decide +kernel, rfl, by decide +kernel, by decide +kernel⟩
abbrev s_fraction_of : Stmt := topAt 18
theorem sc_fraction_of : FnScope ["row", "p", "q", "part"] ["row"] (defScope s_fraction_of) := ⟨rfl, rfl, rfl, by decide +kernel, rfl, by decide +kernel, by decide +kernel⟩
abbrev s_regular_of : Stmt := topAt 19
theorem sc_regular_of : FnScope ["p", "q", "found"] ["p", "q"] (defScope s_regular_of) := ⟨rfl, rfl, rfl, by decide +kernel, rfl, by decide +kernel, by decide +kernel⟩
abbrev s_regular_row : Stmt := topAt 20
theorem sc_regular_row : FnScope ["p", "q"] ["p", "q"] (defScope s_regular_row) := ⟨rfl, rfl, rfl, by decide +kernel, rfl, by decide +kernel, by decide +kernel⟩
abbrev s_even_row : Stmt := topAt 21
theorem sc_even_row : FnScope ["p", "e", "found", "part"] ["p", "e"] (defScope s_even_row) := ⟨rfl, rfl, rfl, by decide +kernel, rfl, by decide +kernel, by decide +kernel⟩
abbrev s_mirror_fraction : Stmt := topAt 22
theorem sc_mirror_fraction : FnScope ["p", "q"] ["p", "q"] (defScope s_mirror_fraction) := ⟨rfl, rfl, rfl, by decide +kernel, rfl, by decide +kernel, by decide +kernel⟩
abbrev s_inverse_of : Stmt := topAt 23
theorem sc_inverse_of : FnScope ["p", "q", "last", "here", "left", "rest", "times"] ["p", "q"] (defScope s_inverse_of) := ⟨rfl, rfl, rfl, by decide +kernel, rfl, by decide +kernel, by decide +kernel⟩
abbrev s_inverse_fraction : Stmt := topAt 24
theorem sc_inverse_fraction : FnScope ["p", "q"] ["p", "q"] (defScope s_inverse_fraction) := ⟨rfl, rfl, rfl, by decide +kernel, rfl, by decide +kernel, by decide +kernel⟩
abbrev s_is_own_mirror : Stmt := topAt 25
theorem sc_is_own_mirror : FnScope ["p", "q"] ["p", "q"] (defScope s_is_own_mirror) := ⟨rfl, rfl, rfl, by decide +kernel, rfl, by decide +kernel, by decide +kernel⟩
abbrev s_least_crossings : Stmt := topAt 26
theorem sc_least_crossings : FnScope ["p", "q"] ["p", "q"] (defScope s_least_crossings) := ⟨rfl, rfl, rfl, by decide +kernel, rfl, by decide +kernel, by decide +kernel⟩
abbrev s__law_pool : Stmt := topAt 28
theorem sc__law_pool : FnScope ["script", "cell"] ["script"] (defScope s__law_pool) := ⟨rfl, rfl, rfl, by decide +kernel, rfl, by decide +kernel, by decide +kernel⟩
abbrev s__law_take : Stmt := topAt 29
theorem sc__law_take : FnScope ["pool", "many", "digit", "cell", "mixed"] ["pool", "many"] (defScope s__law_take) := ⟨rfl, rfl, rfl, by decide +kernel, rfl, by decide +kernel, by decide +kernel⟩
abbrev s__law_pick : Stmt := topAt 30
theorem sc__law_pick : FnScope ["pool", "rows"] ["pool", "rows"] (defScope s__law_pick) := ⟨rfl, rfl, rfl, by decide +kernel, rfl, by decide +kernel, by decide +kernel⟩
abbrev s__law_is_integer : Stmt := topAt 31
theorem sc__law_is_integer : FnScope ["actual"] ["actual"] (defScope s__law_is_integer) := ⟨rfl, rfl, rfl, by decide +kernel, rfl, by decide +kernel, by decide +kernel⟩
abbrev s__law_same : Stmt := topAt 32
theorem sc__law_same : FnScope ["actual", "due", "k"] ["actual", "due"] (defScope s__law_same) := ⟨rfl, rfl, rfl, by decide +kernel, rfl, by decide +kernel, by decide +kernel⟩
abbrev s__law_below : Stmt := topAt 33
theorem sc__law_below : FnScope ["pool", "many", "found", "turn"] ["pool", "many"] (defScope s__law_below) := ⟨rfl, rfl, rfl, by decide +kernel, rfl, by decide +kernel, by decide +kernel⟩
abbrev s__law_common : Stmt := topAt 34
theorem sc__law_common : FnScope ["one", "other", "turn"] ["one", "other"] (defScope s__law_common) := ⟨rfl, rfl, rfl, by decide +kernel, rfl, by decide +kernel, by decide +kernel⟩
abbrev s__law_given : Stmt := topAt 35
theorem sc__law_given : FnScope ["pool", "row"] ["pool", "row"] (defScope s__law_given) := ⟨rfl, rfl, rfl, by decide +kernel, rfl, by decide +kernel, by decide +kernel⟩
abbrev s__law_fraction : Stmt := topAt 36
theorem sc__law_fraction : FnScope ["row", "p", "q", "part"] ["row"] (defScope s__law_fraction) := ⟨rfl, rfl, rfl, by decide +kernel, rfl, by decide +kernel, by decide +kernel⟩
abbrev s__law_regular : Stmt := topAt 37
theorem sc__law_regular : FnScope ["p", "q", "found", "turn"] ["p", "q"] (defScope s__law_regular) := ⟨rfl, rfl, rfl, by decide +kernel, rfl, by decide +kernel, by decide +kernel⟩
abbrev s__law_even : Stmt := topAt 38
theorem sc__law_even : FnScope ["p", "e", "found", "turn", "best", "low", "part"] ["p", "e"] (defScope s__law_even) := ⟨rfl, rfl, rfl, by decide +kernel, rfl, by decide +kernel, by decide +kernel⟩
abbrev s__law_pair : Stmt := topAt 39
theorem sc__law_pair : FnScope ["pool", "most", "p", "some", "q"] ["pool", "most"] (defScope s__law_pair) := ⟨rfl, rfl, rfl, by decide +kernel, rfl, by decide +kernel, by decide +kernel⟩
abbrev s__law_fault : Stmt := topAt 40
theorem sc__law_fault : FnScope ["word", "p", "q", "wrong", "kinds", "k"] ["word", "p", "q"] (defScope s__law_fault) := ⟨rfl, rfl, rfl, by decide +kernel, rfl, by decide +kernel, by decide +kernel⟩
abbrev s__law_great_pair : Stmt := topAt 41
theorem sc__law_great_pair : FnScope ["pool", "p", "q", "turn"] ["pool"] (defScope s__law_great_pair) := ⟨rfl, rfl, rfl, by decide +kernel, rfl, by decide +kernel, by decide +kernel⟩
abbrev s__law_pair_so : Stmt := topAt 42
theorem sc__law_pair_so : FnScope ["p", "q", "row", "told"] ["p", "q"] (defScope s__law_pair_so) := ⟨rfl, rfl, rfl, by decide +kernel, rfl, by decide +kernel, by decide +kernel⟩
abbrev s__law_even_so : Stmt := topAt 43
theorem sc__law_even_so : FnScope ["p", "e", "due", "told", "part"] ["p", "e"] (defScope s__law_even_so) := ⟨rfl, rfl, rfl, by decide +kernel, rfl, by decide +kernel, by decide +kernel⟩
abbrev s__law_always : Stmt := topAt 44
theorem sc__law_always : FnScope ["rows", "told", "due", "faults", "row", "p", "q"] [] (defScope s__law_always) := ⟨rfl, rfl, rfl, by decide +kernel, rfl, by decide +kernel, by decide +kernel⟩
abbrev s_law : Stmt := topAt 45
theorem sc_law : FnScope ["script", "pool", "turn", "row", "p", "q", "e", "wrong", "k"] ["script"] (defScope s_law) := ⟨rfl, rfl, rfl, by decide +kernel, rfl, by decide +kernel, by decide +kernel⟩
structure Ad where
  f_is_whole : Addr
  d_is_whole : FuncData
  f_is_row : Addr
  d_is_row : FuncData
  f_told_row : Addr
  d_told_row : FuncData
  f_check_fraction : Addr
  d_check_fraction : FuncData
  f_check_signed : Addr
  d_check_signed : FuncData
  f_fraction_of : Addr
  d_fraction_of : FuncData
  f_regular_of : Addr
  d_regular_of : FuncData
  f_regular_row : Addr
  d_regular_row : FuncData
  f_even_row : Addr
  d_even_row : FuncData
  f_mirror_fraction : Addr
  d_mirror_fraction : FuncData
  f_inverse_of : Addr
  d_inverse_of : FuncData
  f_inverse_fraction : Addr
  d_inverse_fraction : FuncData
  f_is_own_mirror : Addr
  d_is_own_mirror : FuncData
  f_least_crossings : Addr
  d_least_crossings : FuncData
  f__law_pool : Addr
  d__law_pool : FuncData
  f__law_take : Addr
  d__law_take : FuncData
  f__law_pick : Addr
  d__law_pick : FuncData
  f__law_is_integer : Addr
  d__law_is_integer : FuncData
  f__law_same : Addr
  d__law_same : FuncData
  f__law_below : Addr
  d__law_below : FuncData
  f__law_common : Addr
  d__law_common : FuncData
  f__law_given : Addr
  d__law_given : FuncData
  f__law_fraction : Addr
  d__law_fraction : FuncData
  f__law_regular : Addr
  d__law_regular : FuncData
  f__law_even : Addr
  d__law_even : FuncData
  f__law_pair : Addr
  d__law_pair : FuncData
  f__law_fault : Addr
  d__law_fault : FuncData
  f__law_great_pair : Addr
  d__law_great_pair : FuncData
  f__law_pair_so : Addr
  d__law_pair_so : FuncData
  f__law_even_so : Addr
  d__law_even_so : FuncData
  f__law_always : Addr
  d__law_always : FuncData
  f_law : Addr
  d_law : FuncData
  C_KnotError : Addr
  C_BadRow : Addr
  C_BadFraction : Addr
  C_BadSignedFraction : Addr
  C_NoRegularRow : Addr
  C_TooLongRow : Addr
structure Txt (K : Fg) (mg : Str → Option Value) (A : Ad) : Prop where
  F_is_whole : Fun K "is_whole" "is_whole" s_is_whole A.f_is_whole A.d_is_whole
  m_is_whole : mg "is_whole" = some (.ref A.f_is_whole)
  b_is_whole : Binds K A.d_is_whole ["value"] []
  F_is_row : Fun K "is_row" "is_row" s_is_row A.f_is_row A.d_is_row
  m_is_row : mg "is_row" = some (.ref A.f_is_row)
  b_is_row : Binds K A.d_is_row ["value"] []
  F_told_row : Fun K "told_row" "told_row" s_told_row A.f_told_row A.d_told_row
  m_told_row : mg "told_row" = some (.ref A.f_told_row)
  b_told_row : Binds K A.d_told_row ["row"] []
  F_check_fraction : Fun K "check_fraction" "check_fraction" s_check_fraction A.f_check_fraction A.d_check_fraction
  m_check_fraction : mg "check_fraction" = some (.ref A.f_check_fraction)
  b_check_fraction : Binds K A.d_check_fraction ["p", "q"] []
  F_check_signed : Fun K "check_signed" "check_signed" s_check_signed A.f_check_signed A.d_check_signed
  m_check_signed : mg "check_signed" = some (.ref A.f_check_signed)
  b_check_signed : Binds K A.d_check_signed ["p", "e"] []
  F_fraction_of : Fun K "fraction_of" "fraction_of" s_fraction_of A.f_fraction_of A.d_fraction_of
  m_fraction_of : mg "fraction_of" = some (.ref A.f_fraction_of)
  b_fraction_of : Binds K A.d_fraction_of ["row"] []
  F_regular_of : Fun K "regular_of" "regular_of" s_regular_of A.f_regular_of A.d_regular_of
  m_regular_of : mg "regular_of" = some (.ref A.f_regular_of)
  b_regular_of : Binds K A.d_regular_of ["p", "q"] []
  F_regular_row : Fun K "regular_row" "regular_row" s_regular_row A.f_regular_row A.d_regular_row
  m_regular_row : mg "regular_row" = some (.ref A.f_regular_row)
  b_regular_row : Binds K A.d_regular_row ["p", "q"] []
  F_even_row : Fun K "even_row" "even_row" s_even_row A.f_even_row A.d_even_row
  m_even_row : mg "even_row" = some (.ref A.f_even_row)
  b_even_row : Binds K A.d_even_row ["p", "e"] []
  F_mirror_fraction : Fun K "mirror_fraction" "mirror_fraction" s_mirror_fraction A.f_mirror_fraction A.d_mirror_fraction
  m_mirror_fraction : mg "mirror_fraction" = some (.ref A.f_mirror_fraction)
  b_mirror_fraction : Binds K A.d_mirror_fraction ["p", "q"] []
  F_inverse_of : Fun K "inverse_of" "inverse_of" s_inverse_of A.f_inverse_of A.d_inverse_of
  m_inverse_of : mg "inverse_of" = some (.ref A.f_inverse_of)
  b_inverse_of : Binds K A.d_inverse_of ["p", "q"] []
  F_inverse_fraction : Fun K "inverse_fraction" "inverse_fraction" s_inverse_fraction A.f_inverse_fraction A.d_inverse_fraction
  m_inverse_fraction : mg "inverse_fraction" = some (.ref A.f_inverse_fraction)
  b_inverse_fraction : Binds K A.d_inverse_fraction ["p", "q"] []
  F_is_own_mirror : Fun K "is_own_mirror" "is_own_mirror" s_is_own_mirror A.f_is_own_mirror A.d_is_own_mirror
  m_is_own_mirror : mg "is_own_mirror" = some (.ref A.f_is_own_mirror)
  b_is_own_mirror : Binds K A.d_is_own_mirror ["p", "q"] []
  F_least_crossings : Fun K "least_crossings" "least_crossings" s_least_crossings A.f_least_crossings A.d_least_crossings
  m_least_crossings : mg "least_crossings" = some (.ref A.f_least_crossings)
  b_least_crossings : Binds K A.d_least_crossings ["p", "q"] []
  F__law_pool : Fun K "_law_pool" "_law_pool" s__law_pool A.f__law_pool A.d__law_pool
  m__law_pool : mg "_law_pool" = some (.ref A.f__law_pool)
  b__law_pool : Binds K A.d__law_pool ["script"] []
  F__law_take : Fun K "_law_take" "_law_take" s__law_take A.f__law_take A.d__law_take
  m__law_take : mg "_law_take" = some (.ref A.f__law_take)
  b__law_take : Binds K A.d__law_take ["pool", "many"] []
  F__law_pick : Fun K "_law_pick" "_law_pick" s__law_pick A.f__law_pick A.d__law_pick
  m__law_pick : mg "_law_pick" = some (.ref A.f__law_pick)
  b__law_pick : Binds K A.d__law_pick ["pool", "rows"] []
  F__law_is_integer : Fun K "_law_is_integer" "_law_is_integer" s__law_is_integer A.f__law_is_integer A.d__law_is_integer
  m__law_is_integer : mg "_law_is_integer" = some (.ref A.f__law_is_integer)
  b__law_is_integer : Binds K A.d__law_is_integer ["actual"] []
  F__law_same : Fun K "_law_same" "_law_same" s__law_same A.f__law_same A.d__law_same
  m__law_same : mg "_law_same" = some (.ref A.f__law_same)
  b__law_same : Binds K A.d__law_same ["actual", "due"] []
  F__law_below : Fun K "_law_below" "_law_below" s__law_below A.f__law_below A.d__law_below
  m__law_below : mg "_law_below" = some (.ref A.f__law_below)
  b__law_below : Binds K A.d__law_below ["pool", "many"] []
  F__law_common : Fun K "_law_common" "_law_common" s__law_common A.f__law_common A.d__law_common
  m__law_common : mg "_law_common" = some (.ref A.f__law_common)
  b__law_common : Binds K A.d__law_common ["one", "other"] []
  F__law_given : Fun K "_law_given" "_law_given" s__law_given A.f__law_given A.d__law_given
  m__law_given : mg "_law_given" = some (.ref A.f__law_given)
  b__law_given : Binds K A.d__law_given ["pool", "row"] []
  F__law_fraction : Fun K "_law_fraction" "_law_fraction" s__law_fraction A.f__law_fraction A.d__law_fraction
  m__law_fraction : mg "_law_fraction" = some (.ref A.f__law_fraction)
  b__law_fraction : Binds K A.d__law_fraction ["row"] []
  F__law_regular : Fun K "_law_regular" "_law_regular" s__law_regular A.f__law_regular A.d__law_regular
  m__law_regular : mg "_law_regular" = some (.ref A.f__law_regular)
  b__law_regular : Binds K A.d__law_regular ["p", "q"] []
  F__law_even : Fun K "_law_even" "_law_even" s__law_even A.f__law_even A.d__law_even
  m__law_even : mg "_law_even" = some (.ref A.f__law_even)
  b__law_even : Binds K A.d__law_even ["p", "e"] []
  F__law_pair : Fun K "_law_pair" "_law_pair" s__law_pair A.f__law_pair A.d__law_pair
  m__law_pair : mg "_law_pair" = some (.ref A.f__law_pair)
  b__law_pair : Binds K A.d__law_pair ["pool", "most"] []
  F__law_fault : Fun K "_law_fault" "_law_fault" s__law_fault A.f__law_fault A.d__law_fault
  m__law_fault : mg "_law_fault" = some (.ref A.f__law_fault)
  b__law_fault : Binds K A.d__law_fault ["word", "p", "q"] []
  F__law_great_pair : Fun K "_law_great_pair" "_law_great_pair" s__law_great_pair A.f__law_great_pair A.d__law_great_pair
  m__law_great_pair : mg "_law_great_pair" = some (.ref A.f__law_great_pair)
  b__law_great_pair : Binds K A.d__law_great_pair ["pool"] []
  F__law_pair_so : Fun K "_law_pair_so" "_law_pair_so" s__law_pair_so A.f__law_pair_so A.d__law_pair_so
  m__law_pair_so : mg "_law_pair_so" = some (.ref A.f__law_pair_so)
  b__law_pair_so : Binds K A.d__law_pair_so ["p", "q"] []
  F__law_even_so : Fun K "_law_even_so" "_law_even_so" s__law_even_so A.f__law_even_so A.d__law_even_so
  m__law_even_so : mg "_law_even_so" = some (.ref A.f__law_even_so)
  b__law_even_so : Binds K A.d__law_even_so ["p", "e"] []
  F__law_always : Fun K "_law_always" "_law_always" s__law_always A.f__law_always A.d__law_always
  m__law_always : mg "_law_always" = some (.ref A.f__law_always)
  b__law_always : Binds K A.d__law_always [] []
  F_law : Fun K "law" "law" s_law A.f_law A.d_law
  m_law : mg "law" = some (.ref A.f_law)
  m_KnotError : mg "KnotError" = some (.ref A.C_KnotError)
  c_KnotError : ExcF K A.C_KnotError
  m_BadRow : mg "BadRow" = some (.ref A.C_BadRow)
  c_BadRow : ExcF K A.C_BadRow
  m_BadFraction : mg "BadFraction" = some (.ref A.C_BadFraction)
  c_BadFraction : ExcF K A.C_BadFraction
  m_BadSignedFraction : mg "BadSignedFraction" = some (.ref A.C_BadSignedFraction)
  c_BadSignedFraction : ExcF K A.C_BadSignedFraction
  m_NoRegularRow : mg "NoRegularRow" = some (.ref A.C_NoRegularRow)
  c_NoRegularRow : ExcF K A.C_NoRegularRow
  m_TooLongRow : mg "TooLongRow" = some (.ref A.C_TooLongRow)
  c_TooLongRow : ExcF K A.C_TooLongRow
  e_BadRow_KnotError : PySem.W.subIn K (.ref A.C_BadRow) (.ref A.C_KnotError) = some true
  k_BadRow_BadRow : PySem.W.kitOne K (.ref A.C_BadRow) (.ref A.C_BadRow) = some true
  k_BadRow_BadFraction : PySem.W.kitOne K (.ref A.C_BadRow) (.ref A.C_BadFraction) = some false
  k_BadRow_BadSignedFraction : PySem.W.kitOne K (.ref A.C_BadRow) (.ref A.C_BadSignedFraction) = some false
  k_BadRow_NoRegularRow : PySem.W.kitOne K (.ref A.C_BadRow) (.ref A.C_NoRegularRow) = some false
  k_BadRow_TooLongRow : PySem.W.kitOne K (.ref A.C_BadRow) (.ref A.C_TooLongRow) = some false
  e_BadFraction_KnotError : PySem.W.subIn K (.ref A.C_BadFraction) (.ref A.C_KnotError) = some true
  k_BadFraction_BadRow : PySem.W.kitOne K (.ref A.C_BadFraction) (.ref A.C_BadRow) = some false
  k_BadFraction_BadFraction : PySem.W.kitOne K (.ref A.C_BadFraction) (.ref A.C_BadFraction) = some true
  k_BadFraction_BadSignedFraction : PySem.W.kitOne K (.ref A.C_BadFraction) (.ref A.C_BadSignedFraction) = some false
  k_BadFraction_NoRegularRow : PySem.W.kitOne K (.ref A.C_BadFraction) (.ref A.C_NoRegularRow) = some false
  k_BadFraction_TooLongRow : PySem.W.kitOne K (.ref A.C_BadFraction) (.ref A.C_TooLongRow) = some false
  e_BadSignedFraction_KnotError : PySem.W.subIn K (.ref A.C_BadSignedFraction) (.ref A.C_KnotError) = some true
  k_BadSignedFraction_BadRow : PySem.W.kitOne K (.ref A.C_BadSignedFraction) (.ref A.C_BadRow) = some false
  k_BadSignedFraction_BadFraction : PySem.W.kitOne K (.ref A.C_BadSignedFraction) (.ref A.C_BadFraction) = some false
  k_BadSignedFraction_BadSignedFraction : PySem.W.kitOne K (.ref A.C_BadSignedFraction) (.ref A.C_BadSignedFraction) = some true
  k_BadSignedFraction_NoRegularRow : PySem.W.kitOne K (.ref A.C_BadSignedFraction) (.ref A.C_NoRegularRow) = some false
  k_BadSignedFraction_TooLongRow : PySem.W.kitOne K (.ref A.C_BadSignedFraction) (.ref A.C_TooLongRow) = some false
  e_NoRegularRow_KnotError : PySem.W.subIn K (.ref A.C_NoRegularRow) (.ref A.C_KnotError) = some true
  k_NoRegularRow_BadRow : PySem.W.kitOne K (.ref A.C_NoRegularRow) (.ref A.C_BadRow) = some false
  k_NoRegularRow_BadFraction : PySem.W.kitOne K (.ref A.C_NoRegularRow) (.ref A.C_BadFraction) = some false
  k_NoRegularRow_BadSignedFraction : PySem.W.kitOne K (.ref A.C_NoRegularRow) (.ref A.C_BadSignedFraction) = some false
  k_NoRegularRow_NoRegularRow : PySem.W.kitOne K (.ref A.C_NoRegularRow) (.ref A.C_NoRegularRow) = some true
  k_NoRegularRow_TooLongRow : PySem.W.kitOne K (.ref A.C_NoRegularRow) (.ref A.C_TooLongRow) = some false
  e_TooLongRow_KnotError : PySem.W.subIn K (.ref A.C_TooLongRow) (.ref A.C_KnotError) = some true
  k_TooLongRow_BadRow : PySem.W.kitOne K (.ref A.C_TooLongRow) (.ref A.C_BadRow) = some false
  k_TooLongRow_BadFraction : PySem.W.kitOne K (.ref A.C_TooLongRow) (.ref A.C_BadFraction) = some false
  k_TooLongRow_BadSignedFraction : PySem.W.kitOne K (.ref A.C_TooLongRow) (.ref A.C_BadSignedFraction) = some false
  k_TooLongRow_NoRegularRow : PySem.W.kitOne K (.ref A.C_TooLongRow) (.ref A.C_NoRegularRow) = some false
  k_TooLongRow_TooLongRow : PySem.W.kitOne K (.ref A.C_TooLongRow) (.ref A.C_TooLongRow) = some true
  m_MOST_ROW : ∃ t, mg "MOST_ROW" = some (.int (60) t)
  m_MOST_FRACTION : ∃ t, mg "MOST_FRACTION" = some (.int (1000000000) t)
  m_MOST_EVEN : ∃ t, mg "MOST_EVEN" = some (.int (200) t)
  m_gcd : mg "gcd" = some (.builtin "math.gcd")
  z_abs : mg "abs" = none
  z_all : mg "all" = none
  z_any : mg "any" = none
  z_bool : mg "bool" = none
  z_int : mg "int" = none
  z_isinstance : mg "isinstance" = none
  z_len : mg "len" = none
  z_list : mg "list" = none
  z_range : mg "range" = none
  z_str : mg "str" = none
  z_sum : mg "sum" = none
  z_tuple : mg "tuple" = none
end K63
namespace K63
open PySem PySem.Spec PyProof.Rows L2 L3
section
variable {P : Program} {w : World} {K : Fg} {mg : Str → Option Value} {base : Heap} {Z : Ad}
theorem ok_is_whole (T : Txt K mg Z) : FnOk P w K mg base (L2N.CX P w) 1 Z.f_is_whole Z.d_is_whole ["value"] (spR K 1 (R1 fun d => .ok (.bool (isW d)))) := by
  refine okN T.F_is_whole sc_is_whole spR_len (fun cdv A outer s H vs Q E hr h => ?_)
  refine ⟨_, (pss_one (ps_ret (pe_and (pe_callB call_isi (by rfl) T.z_isinstance (by decide +kernel) (pa_cons (pv 0) (pa_cons (pe_bltn (v := .ty "int") (by rfl) T.z_int (by decide +kernel) rfl) pa_nil))) (pe_one (pe_not (pe_callB call_isi (by rfl) T.z_isinstance (by decide +kernel) (pa_cons (pv 0) (pa_cons (pe_bltn (v := .ty "bool") (by rfl) T.z_bool (by decide +kernel) rfl) pa_nil)))))))), ?_⟩
  obtain ⟨G, ds, r, b, ha, _, ⟨d, rfl, rfl⟩, k⟩ := h
  obtain ⟨v, rfl, hv⟩ := rpa1 ha
  refine s_ret K (d := .bool (isW d)) b ?_ k
  rw [← isW_eq]
  exact ed_andV (ed_isi (ed_var rfl hv) (kb_int d)) fun _ => ed_notV (ed_isi (ed_var rfl hv) (kb_bool d))
theorem ok_is_row (T : Txt K mg Z) : FnOk P w K mg base (L2N.CX P w) 1 Z.f_is_row Z.d_is_row ["value"] (spR K 1 (R1 fun d => .ok (.bool (isRow d)))) := by
  refine okN T.F_is_row sc_is_row spR_len (fun cdv A outer s H vs Q E hr h => ?_)
  refine ⟨_, (pss_one (ps_ret (pe_callB call_isiT (by rfl) T.z_isinstance (by decide +kernel) (pa_cons (pv 0) (pa_cons (pe_tup (pa_cons (pe_bltn (v := .ty "tuple") (by rfl) T.z_tuple (by decide +kernel) rfl) (pa_cons (pe_bltn (v := .ty "list") (by rfl) T.z_list (by decide +kernel) rfl) pa_nil))) pa_nil))))), ?_⟩
  obtain ⟨G, ds, r, b, ha, _, ⟨d, rfl, rfl⟩, k⟩ := h
  obtain ⟨v, rfl, hv⟩ := rpa1 ha
  refine s_ret K (d := .bool (isRow d)) b ?_ k
  rw [← isRow_eq]
  exact ed_isi2 (ed_var rfl hv) (kb_tuple d) (kb_list d)
end
end K63
namespace K63
open PySem PySem.Spec PyProof.Rows L2 L3 TF
section
variable {P : Program} {w : World} {K : Fg} {mg : Str → Option Value} {base : Heap} {Z : Ad}
def rToldRow (C : Addr) : List PyData → Except Addr PyData → Prop := R1 fun d => match rowOk d with | some ns => .ok (.tuple (iL ns)) | none => .error C
theorem ok_told_row (T : Txt K mg Z) : FnOk P w K mg base (L2N.CX P w) 2 Z.f_told_row Z.d_told_row ["row"] (spR K 1 (rToldRow Z.C_BadRow)) := by
  refine okN T.F_told_row sc_told_row spR_len (fun cdv A outer s H vs Q E hr h => ?_)
  refine ⟨_, (pss_cons (ps_if (PW.pt (pw_or (pt_not (pt_val (pe_call (ok_is_row T) (hr.mono (by first | decide | omega)) rfl T.m_is_row T.F_is_row.kp T.b_is_row .nil passN (pa_cons (pv 0) pa_nil)))) (pw_or (pt_not (pt_chain op_le op_le pe_int (pe_callB call_len_seq (by rfl) T.z_len (by decide +kernel) (pa_cons (pv 0) pa_nil)) (gl_int T.m_MOST_ROW))) (pw_or1 (pt_not (pt_val (pe_callB (cr_all rfl) (by rfl) T.z_all (by decide +kernel) (pa_cons (pe_lc (own := [("part", 1)]) rfl sc_told_row.nd (pi_seq (pv 0)) (blkOk_by (own := [("part", 1)]) (N := ["row", "part"]) (sc := defScope s_told_row) (by decide +kernel)) (fun _ _ _ _ _ => (pg_name (i := 1) sc_told_row.nd rfl (by first | exact Or.inl rfl | exact Or.inr rfl))) (fun _ _ _ _ _ => pts_nil) (fun _ _ _ _ _ => (pe_call (ok_is_whole T) (hr.mono (by first | decide | omega)) rfl T.m_is_whole T.F_is_whole.kp T.b_is_whole .nil passN (pa_cons (pv 1) pa_nil)))) pa_nil)))))))) (pss_one (L2N.ps_raise rfl (L2N.takes_of rfl rfl rfl rfl) (L2N.pmk_own PySem.F.excBase_ValueError T.c_BadRow.x T.m_BadRow T.c_BadRow.k (raises_own T.c_BadRow.b T.c_BadRow.t) rfl))) pss_nil)
    (pss_cons (ps_if (pt_cmpR op_gt (pe_callB (cr_sum rfl) (by rfl) T.z_sum (by decide +kernel) (pa_cons (pe_lc (own := [("part", 1)]) rfl sc_told_row.nd (pi_seq (pv 0)) (blkOk_by (own := [("part", 1)]) (N := ["row", "part"]) (sc := defScope s_told_row) (by decide +kernel)) (fun _ _ _ _ _ => (pg_name (i := 1) sc_told_row.nd rfl (by first | exact Or.inl rfl | exact Or.inr rfl))) (fun _ _ _ _ _ => pts_nil) (fun _ _ _ _ _ => (pe_callB call_abs (by rfl) T.z_abs (by decide +kernel) (pa_cons (pv 1) pa_nil)))) pa_nil)) (gl_int T.m_MOST_ROW) (nomark _)) (pss_one (L2N.ps_raise rfl (L2N.takes_of rfl rfl rfl rfl) (L2N.pmk_own PySem.F.excBase_ValueError T.c_BadRow.x T.m_BadRow T.c_BadRow.k (raises_own T.c_BadRow.b T.c_BadRow.t) rfl))) pss_nil)
    (pss_one (ps_ret (pe_callTy call_tuple_of (by rfl) T.z_tuple (by decide +kernel) (pa_cons (pv 0) pa_nil)))))), ?_⟩
  obtain ⟨G, ds, r, b, ha, _, ⟨d, rfl, er⟩, k⟩ := h
  obtain ⟨v, rfl, hv⟩ := rpa1 ha
  -- the two ways out
  have bad : rowOk d = none → ∀ H1, Same H H1 → E (.ref Z.C_BadRow) none H1 := fun e => by
    simp only [e] at er; subst er; exact k
  have good : ∀ ns, rowOk d = some ns → ∀ v G1 H1, Wk G H G1 H1 → Rp K G1 v (.tuple (iL ns)) → Q v H1 := fun ns e => by
    simp only [e] at er; subst er; exact k
  clear k er
  cases hs : seqOf d with
  | none =>
    have e0 : rowOk d = none := by unfold rowOk; rw [hs]
    have e1 : isRow d = false := by rw [← seqOf_row, hs]; rfl
    refine q_when K (c := true) b (EvB.to (eb_or (b := true) (eb_not (eb_val (ed_call (ea_cons (ed_var rfl hv) ea_nil) rfl ⟨d, rfl, rfl⟩))) fun e => ?_) ?_) (fun _ G1 H1 w1 => bad e0 H1 w1.h) fun e => nomatch e
    · rw [e1] at e; cases e
    · rw [e1]; rfl
  | some ds =>
    have hd := seqOf_is hs
    have e1 : isRow d = true := by rw [← seqOf_row, hs]; rfl
    by_cases hl : 1 ≤ ds.length ∧ ds.length ≤ 60
    · refine q_when K (c := !(toInts ds).isSome) b (EvB.to (eb_or (eb_not (eb_val (ed_call (ea_cons (ed_var rfl hv) ea_nil) rfl ⟨d, rfl, rfl⟩)))
        fun _ => eb_or (eb_not (eb_test (ed_chain ed_int (ed_lenS (ed_var rfl hv) hd) fun _ => ed_int)))
          fun _ => eb_not (eb_val (ed_all (EvD.to (ed_mapS (fun x => .bool (isW x)) (ed_var rfl hv) hd (by omega) (fun _ => rfl)
            fun x _ y G1 H1 w1 hy => ed_call (ea_cons (ed_var rfl hy) ea_nil) rfl ⟨x, rfl, rfl⟩) (by rw [map_bL]))))) ?_) ?_ ?_
      · rw [e1, toInts_all]
        have a1 : decide ((1 : Int) ≤ (ds.length : Int)) = true := decide_eq_true (by omega)
        have a2 : decide ((ds.length : Int) ≤ 60) = true := decide_eq_true (by omega)
        rw [a1, a2]; rfl
      · intro e G1 H1 w1
        refine bad ?_ H1 w1.h
        unfold rowOk; rw [hs]
        simp only [hl, and_self, if_true]
        cases q : toInts ds with
        | none => rfl
        | some ns => rw [q] at e; cases e
      · intro e G1 H1 w1
        cases q : toInts ds with
        | none => rw [q] at e; cases e
        | some ns =>
          have eds := toInts_some q
          have hv1 := dp_up w1.g hv
          refine q_when K (c := decide (60 < absSum ns)) w1.b (EvB.to (eb_test (ed_gt (ed_sum (ns := ns.map ab) (EvD.to (ed_mapS (fun x => match x with | .int i => .int (ab i) | _ => .none) (ed_var rfl hv1) hd (by omega) (fun _ => rfl)
            fun x hx y G2 H2 w2 hy => ?_) ?_)) ed_int)) rfl) ?_ ?_
          · obtain ⟨i, hi, rfl⟩ : ∃ i, i ∈ ns ∧ x = .int i := by
              rw [eds] at hx
              obtain ⟨i, a, b⟩ := List.mem_map.mp hx
              exact ⟨i, a, b.symm⟩
            exact ed_abs (ed_var rfl hy)
          · rw [eds]
            unfold iL; rw [List.map_map, List.map_map]; rfl
          · intro e2 G2 H2 w2
            refine bad ?_ H2 (w1.h.trans w2.h)
            have := of_decide_eq_true e2
            unfold rowOk; rw [hs]
            simp only [hl, and_self, if_true, q]
            rw [if_neg (by omega)]
          · intro e2 G2 H2 w2
            have := of_decide_eq_false e2
            refine s_ret K w2.b (ed_tupS (ed_var rfl (dp_up w2.g hv1)) hd) ?_
            rw [eds]
            intro v G3 H3 w3 r
            refine good ns ?_ v G3 H3 ((w1.trans w2).trans w3) r
            unfold rowOk; rw [hs]
            simp only [hl, and_self, if_true, q]
            rw [if_pos (by omega)]
    · refine q_when K (c := true) b (EvB.to (eb_or (eb_not (eb_val (ed_call (ea_cons (ed_var rfl hv) ea_nil) rfl ⟨d, rfl, rfl⟩)))
        fun _ => eb_or (b := true) (eb_not (eb_test (ed_chain ed_int (ed_lenS (ed_var rfl hv) hd) fun _ => ed_int)))
          fun e => ?_) ?_) (fun _ G1 H1 w1 => bad ?_ H1 w1.h) fun e => nomatch e
      · exfalso
        simp only [Bool.not_eq_false', Bool.and_eq_true, decide_eq_true_eq] at e
        omega
      · simp
      · unfold rowOk; rw [hs]; exact if_neg hl
end
end K63
namespace K63
open PySem PySem.Spec PyProof.Rows L2 L3 TF
section
variable {P : Program} {w : World} {K : Fg} {mg : Str → Option Value} {base : Heap} {Z : Ad}
def rCheck (ok : PyData → PyData → Option (Int × Int)) (C : Addr) : List PyData → Except Addr PyData → Prop := R2' fun p q => match ok p q with | some _ => .ok .none | none => .error C
theorem wh {d : PyData} (h : isW d = true) : ∃ i, d = .int i := by
  cases d with
  | int i => exact ⟨i, rfl⟩
  | _ => cases h
theorem ok_check_fraction (T : Txt K mg Z) : FnOk P w K mg base (L2N.CX P w) 2 Z.f_check_fraction Z.d_check_fraction ["p", "q"] (spR K 2 (rCheck okFrac Z.C_BadFraction)) := by
  refine okN T.F_check_fraction sc_check_fraction spR_len (fun cdv A outer s H vs Q E hr h => ?_)
  refine ⟨_, (pss_cons (ps_if (PW.pt (pw_or (pt_not (pt_val (pe_call (ok_is_whole T) (hr.mono (by first | decide | omega)) rfl T.m_is_whole T.F_is_whole.kp T.b_is_whole .nil passN (pa_cons (pv 0) pa_nil)))) (pw_or (pt_not (pt_val (pe_call (ok_is_whole T) (hr.mono (by first | decide | omega)) rfl T.m_is_whole T.F_is_whole.kp T.b_is_whole .nil passN (pa_cons (pv 1) pa_nil)))) (pw_or1 (pt_not (pt_chain op_le op_le pe_int (pv 0) (gl_int T.m_MOST_FRACTION))))))) (pss_one (L2N.ps_raise rfl (L2N.takes_of rfl rfl rfl rfl) (L2N.pmk_own PySem.F.excBase_ValueError T.c_BadFraction.x T.m_BadFraction T.c_BadFraction.k (raises_own T.c_BadFraction.b T.c_BadFraction.t) rfl))) pss_nil)
    (pss_one (ps_if (PW.pt (pw_or (PW.pt (pw_and (pt_cmpR (op_eqD hr.units) (pv 0) pe_int (nomark _)) (pw_and1 (pt_cmpR (op_neD hr.units) (pv 1) pe_int (nomark _))))) (pw_or1 (PW.pt (pw_and (pt_cmpR op_gt (pv 0) pe_int (nomark _)) (pw_and1 (PW.pt (pw_or (pt_not (pt_chain op_le op_lt pe_int (pv 1) (pv 0))) (pw_or1 (pt_cmpR (op_neD hr.units) (pe_callBfun cr_gcd (by rfl) T.m_gcd (pa_cons (pv 0) (pa_cons (pv 1) pa_nil))) pe_int (nomark _))))))))))) (pss_one (L2N.ps_raise rfl (L2N.takes_of rfl rfl rfl rfl) (L2N.pmk_own PySem.F.excBase_ValueError T.c_BadFraction.x T.m_BadFraction T.c_BadFraction.k (raises_own T.c_BadFraction.b T.c_BadFraction.t) rfl))) pss_nil))), ?_⟩
  obtain ⟨G, ds, r, b, ha, _, ⟨p, q, rfl, er⟩, k⟩ := h
  obtain ⟨v, u, rfl, hv, hu⟩ := rpa2 ha
  have bad : okFrac p q = none → ∀ H1, Same H H1 → E (.ref Z.C_BadFraction) none H1 := fun e => by
    simp only [e] at er; subst er; exact k
  have good : okFrac p q ≠ none → ∀ v G1 H1, Wk G H G1 H1 → Rp K G1 v .none → Q v H1 := fun e => by
    cases e1 : okFrac p q with
    | none => exact absurd e1 e
    | some z => simp only [e1] at er; subst er; exact k
  clear k er
  by_cases hw : isW p = true ∧ isW q = true
  · obtain ⟨i, rfl⟩ := wh hw.1
    obtain ⟨j, rfl⟩ := wh hw.2
    cases hv; cases hu
    refine q_when K (c := !(decide (0 ≤ i) && decide (i ≤ 1000000000))) b (EvB.to (eb_or (eb_not (eb_val (ed_call (ea_cons (ed_var rfl (.int i)) ea_nil) rfl ⟨_, rfl, rfl⟩))) fun e1 => eb_or (eb_not (eb_val (ed_call (ea_cons (ed_var rfl (.int j)) ea_nil) rfl ⟨_, rfl, rfl⟩))) fun e2 => eb_not (eb_test (ed_chain ed_int (ed_vI rfl) fun _ => ed_int))) rfl) (fun e G1 H1 w1 => bad ?_ H1 w1.h) fun e G1 H1 w1 => ?_
    · rw [okFrac_int, if_neg]
      simp only [Bool.not_eq_true', Bool.and_eq_false_iff, decide_eq_false_iff_not] at e
      omega
    · simp only [Bool.not_eq_false', Bool.and_eq_true, decide_eq_true_eq] at e
      refine s_when K (c := (i == 0 && !(j == 1)) || (decide (0 < i) && (!(decide (0 ≤ j) && decide (j < i)) || !(((Nat.gcd i.natAbs j.natAbs : Nat) : Int) == 1)))) w1.b
        (eb_or (eb_and (eb_test (ed_eqI (ed_vI rfl) ed_int)) fun _ => eb_test (ed_neI (ed_vI rfl) ed_int))
          fun _ => eb_and (eb_test (ed_gt (ed_vI rfl) ed_int)) fun _ => eb_or (eb_not (eb_test (ed_chain ed_int (ed_vI rfl) fun _ => ed_vI rfl))) fun _ => eb_test (ed_neI (ed_gcd (ed_vI rfl) (ed_vI rfl)) ed_int))
        (fun e2 G2 H2 w2 => bad ?_ H2 (w1.h.trans w2.h)) fun e2 G2 H2 w2 => good ?_ _ _ _ (w1.trans w2) .non
      · rw [okFrac_int, if_neg]
        simp only [Bool.or_eq_true, Bool.and_eq_true, Bool.not_eq_true', beq_iff_eq, beq_eq_false_iff_ne, decide_eq_true_eq, Bool.and_eq_false_iff, decide_eq_false_iff_not] at e2
        omega
      · rw [okFrac_int, if_pos]
        · simp
        · simp only [Bool.or_eq_false_iff, Bool.and_eq_false_iff, Bool.not_eq_false', beq_iff_eq, beq_eq_false_iff_ne, decide_eq_true_eq, Bool.and_eq_true, decide_eq_false_iff_not] at e2
          omega
  · have e0 : okFrac p q = none := by
      cases p <;> cases q <;> first | rfl | (exact absurd ⟨rfl, rfl⟩ hw)
    refine q_when K (c := !(isW p) || (!(isW q) || true)) b (eb_or (eb_not (eb_val (ed_call (ea_cons (ed_var rfl hv) ea_nil) rfl ⟨_, rfl, rfl⟩))) fun e1 => eb_or (eb_not (eb_val (ed_call (ea_cons (ed_var rfl hu) ea_nil) rfl ⟨_, rfl, rfl⟩))) fun e2 => absurd ⟨by simpa using e1, by simpa using e2⟩ hw) (fun _ G1 H1 w1 => bad e0 H1 w1.h) fun e => ?_
    simp at e
theorem ok_check_signed (T : Txt K mg Z) : FnOk P w K mg base (L2N.CX P w) 2 Z.f_check_signed Z.d_check_signed ["p", "e"] (spR K 2 (rCheck okSigned Z.C_BadSignedFraction)) := by
  refine okN T.F_check_signed sc_check_signed spR_len (fun cdv A outer s H vs Q E hr h => ?_)
  refine ⟨_, (pss_cons (ps_if (PW.pt (pw_or (pt_not (pt_val (pe_call (ok_is_whole T) (hr.mono (by first | decide | omega)) rfl T.m_is_whole T.F_is_whole.kp T.b_is_whole .nil passN (pa_cons (pv 0) pa_nil)))) (pw_or (pt_not (pt_val (pe_call (ok_is_whole T) (hr.mono (by first | decide | omega)) rfl T.m_is_whole T.F_is_whole.kp T.b_is_whole .nil passN (pa_cons (pv 1) pa_nil)))) (pw_or (pt_not (pt_chain op_le op_le pe_int (pv 0) (gl_int T.m_MOST_FRACTION))) (pw_or1 (pt_cmpR op_ge (pe_callB call_abs (by rfl) T.z_abs (by decide +kernel) (pa_cons (pv 1) pa_nil)) (pv 0) (nomark _))))))) (pss_one (L2N.ps_raise rfl (L2N.takes_of rfl rfl rfl rfl) (L2N.pmk_own PySem.F.excBase_ValueError T.c_BadSignedFraction.x T.m_BadSignedFraction T.c_BadSignedFraction.k (raises_own T.c_BadSignedFraction.b T.c_BadSignedFraction.t) rfl))) pss_nil)
    (pss_one (ps_if (PW.pt (pw_or (pt_cmpR (op_neD hr.units) (pe_callBfun cr_gcd (by rfl) T.m_gcd (pa_cons (pv 0) (pa_cons (pv 1) pa_nil))) pe_int (nomark _)) (pw_or1 (pt_cmpR (op_eqD hr.units) (pe_op op_mod (pe_op op_add (pv 0) (pv 1)) pe_int) pe_int (nomark _))))) (pss_one (L2N.ps_raise rfl (L2N.takes_of rfl rfl rfl rfl) (L2N.pmk_own PySem.F.excBase_ValueError T.c_BadSignedFraction.x T.m_BadSignedFraction T.c_BadSignedFraction.k (raises_own T.c_BadSignedFraction.b T.c_BadSignedFraction.t) rfl))) pss_nil))), ?_⟩
  obtain ⟨G, ds, r, b, ha, _, ⟨p, q, rfl, er⟩, k⟩ := h
  obtain ⟨v, u, rfl, hv, hu⟩ := rpa2 ha
  have bad : okSigned p q = none → ∀ H1, Same H H1 → E (.ref Z.C_BadSignedFraction) none H1 := fun e => by
    simp only [e] at er; subst er; exact k
  have good : okSigned p q ≠ none → ∀ v G1 H1, Wk G H G1 H1 → Rp K G1 v .none → Q v H1 := fun e => by
    cases e1 : okSigned p q with
    | none => exact absurd e1 e
    | some z => simp only [e1] at er; subst er; exact k
  clear k er
  by_cases hw : isW p = true ∧ isW q = true
  · obtain ⟨i, rfl⟩ := wh hw.1
    obtain ⟨j, rfl⟩ := wh hw.2
    cases hv; cases hu
    refine q_when K (c := !(decide (1 ≤ i) && decide (i ≤ 1000000000)) || decide (i ≤ ab j)) b (EvB.to (eb_or (eb_not (eb_val (ed_call (ea_cons (ed_var rfl (.int i)) ea_nil) rfl ⟨_, rfl, rfl⟩))) fun e1 => eb_or (eb_not (eb_val (ed_call (ea_cons (ed_var rfl (.int j)) ea_nil) rfl ⟨_, rfl, rfl⟩)))
      fun e2 => eb_or (eb_not (eb_test (ed_chain ed_int (ed_vI rfl) fun _ => ed_int))) fun _ => eb_test (ed_ge (ed_abs (ed_vI rfl)) (ed_vI rfl))) rfl) (fun e G1 H1 w1 => bad ?_ H1 w1.h) fun e G1 H1 w1 => ?_
    · rw [okSigned_int, if_neg]
      simp only [Bool.or_eq_true, Bool.not_eq_true', Bool.and_eq_false_iff, decide_eq_false_iff_not, decide_eq_true_eq] at e
      omega
    · simp only [Bool.or_eq_false_iff, Bool.not_eq_false', Bool.and_eq_true, decide_eq_true_eq, decide_eq_false_iff_not] at e
      refine s_when K (c := !(((Nat.gcd i.natAbs j.natAbs : Nat) : Int) == 1) || ((i + j) % 2 == 0)) w1.b
        (eb_or (eb_test (ed_neI (ed_gcd (ed_vI rfl) (ed_vI rfl)) ed_int)) fun _ => eb_test (ed_eqI (ed_modP (ed_add (ed_vI rfl) (ed_vI rfl)) ed_int (by decide)) ed_int))
        (fun e2 G2 H2 w2 => bad ?_ H2 (w1.h.trans w2.h)) fun e2 G2 H2 w2 => good ?_ _ _ _ (w1.trans w2) .non
      · rw [okSigned_int, if_neg]
        simp only [Bool.or_eq_true, Bool.not_eq_true', beq_iff_eq, beq_eq_false_iff_ne] at e2
        omega
      · rw [okSigned_int, if_pos]
        · simp
        · simp only [Bool.or_eq_false_iff, Bool.not_eq_false', beq_iff_eq, beq_eq_false_iff_ne] at e2
          omega
  · have e0 : okSigned p q = none := by
      cases p <;> cases q <;> first | rfl | (exact absurd ⟨rfl, rfl⟩ hw)
    refine q_when K (c := !(isW p) || (!(isW q) || true)) b (eb_or (eb_not (eb_val (ed_call (ea_cons (ed_var rfl hv) ea_nil) rfl ⟨_, rfl, rfl⟩))) fun e1 => eb_or (eb_not (eb_val (ed_call (ea_cons (ed_var rfl hu) ea_nil) rfl ⟨_, rfl, rfl⟩)))
      fun e2 => absurd ⟨by simpa using e1, by simpa using e2⟩ hw) (fun _ G1 H1 w1 => bad e0 H1 w1.h) fun e => ?_
    simp at e
end
end K63
namespace K63
open PySem PySem.Spec PyProof.Rows L2 L3 TF
section
variable {P : Program} {w : World} {K : Fg} {mg : Str → Option Value} {base : Heap} {Z : Ad}
def rFrac (C : Addr) : List PyData → Except Addr PyData → Prop := R1 fun d => match rowOk d with | some ns => .ok (tupI (fracOf ns)) | none => .error C
theorem ok_fraction_of (T : Txt K mg Z) : FnOk P w K mg base (L2N.CX P w) 3 Z.f_fraction_of Z.d_fraction_of ["row"] (spR K 1 (rFrac Z.C_BadRow)) := by
  refine okN T.F_fraction_of sc_fraction_of spR_len (fun cdv A outer s H vs Q E hr h => ?_)
  refine ⟨_, (pss_cons (ps_asg (pe_tup (pa_cons pe_int (pa_cons pe_int pa_nil))) (pg_tup (by rfl) (pgs_cons (pg_name (i := 1) sc_fraction_of.nd rfl (by first | exact Or.inl rfl | exact Or.inr rfl)) (pgs_cons (pg_name (i := 2) sc_fraction_of.nd rfl (by first | exact Or.inl rfl | exact Or.inr rfl)) pgs_nil))))
    (pss_cons (ps_for (passes_of rfl) rfl (pi_tup (pe_revT (pe_call (ok_told_row T) (hr.mono (by first | decide | omega)) rfl T.m_told_row T.F_told_row.kp T.b_told_row .nil (L2N.passes_call (L2N.takes_of rfl rfl rfl rfl) (fun _ _ _ _ h => h)) (pa_cons (pv 0) pa_nil)))) (pg_name (i := 3) sc_fraction_of.nd rfl (by first | exact Or.inl rfl | exact Or.inr rfl)) (pss_one (ps_par (i := 1) (j := 2) (by rfl) sc_fraction_of.nd rfl rfl (by decide) rfl rfl (pa_cons (pe_op op_add (pe_op op_mul (pv 3) (pv 1)) (pv 2)) (pa_cons (pv 1) pa_nil)) (by rfl))))
    (pss_cons (ps_if (pt_cmpR op_lt (pv 1) pe_int (nomark _)) (pss_one (ps_par (i := 1) (j := 2) (by rfl) sc_fraction_of.nd rfl rfl (by decide) rfl rfl (pa_cons (pe_un un_neg (pv 1)) (pa_cons (pe_un un_neg (pv 2)) pa_nil)) (by rfl))) pss_nil)
    (pss_one (ps_ret (pe_ifExp (pt_truth (pv 1) (by intro _; rfl)) (pe_tup (pa_cons (pv 1) (pa_cons (pe_op op_mod (pv 2) (pv 1)) pa_nil))) (pe_tup (pa_cons pe_int (pa_cons pe_int pa_nil))))))))), ?_⟩
  obtain ⟨G, ds, r, b, ha, _, ⟨d, rfl, er⟩, k⟩ := h
  obtain ⟨v, rfl, hv⟩ := rpa1 ha
  refine q_twoI K b (ed_tup (ea_cons ed_int (ea_cons ed_int ea_nil)) ) fun G1 H1 w1 => ?_
  have hv1 := dp_up w1.g hv
  cases hs : rowOk d with
  | none =>
    simp only [hs] at er; subst er
    exact ex_call w1.b (ea_cons (ed_var rfl hv1) ea_nil) rfl ⟨d, rfl, by simp only [hs]⟩ fun H2 e2 => k H2 (w1.h.trans e2)
  | some ns =>
    simp only [hs] at er; subst er
    refine q_forT K (fun i σ _ _ => ∃ x, σ = [some v, some (.int (((ns.reverse.take i).foldl (fun pq part => (part * pq.1 + pq.2, pq.1)) ((1, 0) : Int × Int)).1)), some (.int (((ns.reverse.take i).foldl (fun pq part => (part * pq.1 + pq.2, pq.1)) ((1, 0) : Int × Int)).2)), x])
      w1 (ds := (iL ns).reverse) (ed_revT (ed_call (ea_cons (ed_var rfl hv1) ea_nil) rfl ⟨d, rfl, by simp only [hs]⟩)) (fun G2 H2 w2 => ⟨none, rfl⟩) ?_ ?_
    · rintro i d x σ' G2 H2 hi hx w2 e2 ⟨y, rfl⟩
      have hi' : ns.reverse[i]? = (ns.reverse[i]?) := rfl
      rw [show (iL ns).reverse = ns.reverse.map PyData.int by unfold iL; rw [List.map_reverse], List.getElem?_map] at hi
      cases hn : ns.reverse[i]? with
      | none => rw [hn] at hi; cases hi
      | some n =>
        rw [hn] at hi
        obtain rfl : d = .int n := (Option.some.inj hi).symm
        cases hx
        have hb : ab n ≤ 60 := rowOk_ab hs (List.mem_reverse.mp (List.mem_of_getElem? hn))
        refine s_parI K w2.b (ea_cons (ed_add (ed_mul (ed_vI rfl) (ed_vI rfl) (.inl ?_)) (ed_vI rfl)) (ea_cons (ed_vI rfl) ea_nil)) fun G3 H3 w3 => ⟨G3, w2.trans w3, w3.g, some (.int n), ?_⟩
        · unfold ab at hb; split at hb <;> omega
        · rw [List.take_add_one, hn, List.foldl_append]; rfl
    · rintro σ' G2 H2 w2 e2 ⟨y, rfl⟩
      rw [show ns.reverse.take (iL ns).reverse.length = ns.reverse by rw [List.take_of_length_le]; simp [iL]] 
      have ef : ns.reverse.foldl (fun pq part => (part * pq.1 + pq.2, pq.1)) ((1, 0) : Int × Int) = fold1 ns := by
        rw [List.foldl_reverse]; rfl
      rw [ef]
      have fin : ∀ (p q : Int) G3 H3 (o : Option V), 0 ≤ p → Wk G H G3 H3 → norm1 (fold1 ns) = (p, q) →
          tRet (tIf (fun σ H Q => tVar 1 σ H fun x H' => ∃ k, TruV K x H' k ∧ Q k H') (tTup (tCons (tVar 1) (tCons (tOp (rI (fun _ j => 0 < j) fun i j => .int (i % j)) (tVar 2) (tVar 1)) tNil))) (tTup (tCons (tC (.int 0)) (tCons (tC (.int 1)) tNil)))) { nx := fun _ H' => Q .non H', rt := Q } [some v, some (.int p), some (.int q), o] H3 := by
        intro p q G3 H3 o hp w3 hn
        refine s_ret K w3.b (EvD.to (ed_if (eb_truI (ed_vI rfl)) (fun e => ed_tup (ea_cons (ed_vI rfl) (ea_cons (ed_modP (ed_vI rfl) (ed_vI rfl) ?_) ea_nil)) ) fun e => ed_tup (ea_cons ed_int (ea_cons ed_int ea_nil)) ) ?_) fun v G4 H4 w4 r => k v G4 H4 (w3.trans w4) r
        · simp at e; omega
        · unfold fracOf tupI
          simp only [hn]
          by_cases h0 : p = 0
          · subst h0; rfl
          · simp [h0]
      by_cases hlt : (fold1 ns).1 < 0
      · refine q_when K (c := true) w2.b (EvB.to (eb_test (ed_lt (ed_vI rfl) ed_int)) (decide_eq_true hlt)) (fun _ G3 H3 w3 => ?_) fun e => nomatch e
        refine s_parI K w3.b (ea_cons (ed_neg (ed_vI rfl)) (ea_cons (ed_neg (ed_vI rfl)) ea_nil)) fun G4 H4 w4 => ?_
        exact fin _ _ G4 H4 _ (by omega) ((w2.trans w3).trans w4) (by unfold norm1; rw [if_pos hlt])
      · refine q_when K (c := false) w2.b (EvB.to (eb_test (ed_lt (ed_vI rfl) ed_int)) (decide_eq_false hlt)) (fun e => nomatch e) fun _ G3 H3 w3 => ?_
        exact fin _ _ G3 H3 _ (by omega) (w2.trans w3) (by unfold norm1; rw [if_neg hlt])
end
end K63
namespace K63
open PySem PySem.Spec PyProof.Rows L2 L3 TF
section
variable {P : Program} {w : World} {K : Fg} {mg : Str → Option Value} {base : Heap} {Z : Ad}
theorem iL_map (ns : List Int) : ∀ {G : Hp}, RpA K G (ns.map V.int) (iL ns) := fun {G} => iL_dpa ns
def rReg : List PyData → Except Addr PyData → Prop := fun ds r => ∃ p q, ds = [.int p, .int q] ∧ 0 ≤ q ∧ q ≤ 1000000000 ∧ r = .ok (.tuple (iL (regF p q)))
theorem ok_regular_of (T : Txt K mg Z) : FnOk P w K mg base (L2N.CX P w) 1 Z.f_regular_of Z.d_regular_of ["p", "q"] (spR K 2 rReg) := by
  refine okN T.F_regular_of sc_regular_of spR_len (fun cdv A outer s H vs Q E hr h => ?_)
  refine ⟨_, (pss_cons (ps_set (i := 2) sc_regular_of.nd rfl (by first | exact Or.inl rfl | exact Or.inr rfl) (pe_lst pa_nil))
    (pss_cons (ps_while (passes_of rfl) (pt_truth (pv 1) (by intro _; rfl)) (pss_cons (ps_expr (pe_bm PySem.F.plainAttrs_list PySem.F.slot_list_append PySem.F.type_list_append mt_append (pv 2) (pa_cons (pe_op op_fdiv (pv 0) (pv 1)) pa_nil)))
    (pss_one (ps_par (i := 0) (j := 1) (by rfl) sc_regular_of.nd rfl rfl (by decide) rfl rfl (pa_cons (pv 1) (pa_cons (pe_op op_mod (pv 0) (pv 1)) pa_nil)) (by rfl)))))
    (pss_one (ps_ret (pe_callTy call_tuple_of (by rfl) T.z_tuple (by decide +kernel) (pa_cons (pv 2) pa_nil)))))), ?_⟩
  obtain ⟨G, ds, r, b, ha, _, ⟨p, q, rfl, q0, q1, rfl⟩, k⟩ := h
  obtain ⟨v, u, rfl, hv, hu⟩ := rpa2 ha
  cases hv; cases hu
  refine q_new b fun f hf => ?_
  have w0 : Wk G H G (upd H f (.lst [])) := Wk.own b hf
  refine q_while K (m0 := q.toNat) (fun m σ G1 H1 => ∃ p' q' xs, σ = [some (.int p'), some (.int q'), some (.ref f)] ∧ 0 ≤ q' ∧ q' ≤ 1000000000 ∧ m = q'.toNat ∧ xs ++ regF p' q' = regF p q ∧ G1 f = none ∧ H1 f = some (.lst (xs.map V.int)))
    w0 ⟨p, q, [], rfl, q0, q1, rfl, rfl, none_of_same b hf, upd_same⟩ ?_
  rintro m σ' G1 H1 w1 ⟨p', q', xs, rfl, h0, h1, rfl, hx, gf, hf1⟩
  refine ⟨_, eb_truI (ed_vI rfl), fun e G2 H2 w2 w02 => ?_, fun e G2 H2 w2 w02 => ?_⟩
  · have hq : 0 < q' := by
      have : q' ≠ 0 := by simpa using e
      omega
    have k2 := w2.keep hf1 gf
    have hl : xs.length ≤ 60 := by
      have := regF_len (p := p) q0 q1
      rw [← hx, List.length_append] at this; omega
    refine q_app K w2.b rfl k2.2 k2.1 (by rw [List.length_map]; omega) (ed_divP (ed_vI rfl) (ed_vI rfl) ⟨hq, by omega⟩) fun v G3 H3 w3 gf3 hf3 hv => ?_
    cases hv
    have w4 : Wk G H G3 (upd H3 f (.lst (xs.map V.int ++ [.int (p' / q')]))) := Wk.mut (w02.trans w3) hf gf3
    refine s_parI K w4.b (ea_cons (ed_vI rfl) (ea_cons (ed_modP (ed_vI rfl) (ed_vI rfl) hq) ea_nil)) fun G4 H4 w5 => ?_
    have k5 := w5.keep (o := .lst (xs.map V.int ++ [.int (p' / q')])) upd_same gf3
    have r0 := Int.emod_nonneg p' (show q' ≠ 0 by omega)
    have r1 := Int.emod_lt_of_pos p' hq
    refine ⟨(p' % q').toNat, G4, by omega, w4.trans w5, q', p' % q', xs ++ [p' / q'], rfl, r0, by omega, rfl, ?_, k5.2, ?_⟩
    · rw [← hx, regF_pos hq h1, List.append_assoc]; rfl
    · rw [k5.1, List.map_append]; rfl
  · have hq : q' = 0 := by simpa using e
    subst hq
    rw [regF_zero, List.append_nil] at hx
    subst hx
    have k2 := w2.keep hf1 gf
    exact s_ret K w2.b (ed_tupO rfl k2.1 (iL_dpa _)) fun v G3 H3 w3 r => k v G3 H3 (w02.trans w3) r
def rRegRow (C1 C2 : Addr) : List PyData → Except Addr PyData → Prop := R2' fun p q => match okFrac p q with | none => .error C1 | some pq => if pq.1 < 2 then .error C2 else .ok (.tuple (iL (regF pq.1 pq.2)))
theorem okFrac_some {d e : PyData} {pq : Int × Int} (h : okFrac d e = some pq) : d = .int pq.1 ∧ e = .int pq.2 ∧ 0 ≤ pq.1 ∧ pq.1 ≤ 1000000000 ∧ (pq.1 = 0 → pq.2 = 1) ∧ (0 < pq.1 → 0 ≤ pq.2 ∧ pq.2 < pq.1 ∧ Nat.gcd pq.1.natAbs pq.2.natAbs = 1) := by
  cases d with
  | int p =>
    cases e with
    | int q =>
      rw [okFrac_int] at h
      split at h
      · cases h; rename_i hh; exact ⟨rfl, rfl, hh⟩
      · cases h
    | _ => cases h
  | _ => cases h
theorem ok_regular_row (T : Txt K mg Z) : FnOk P w K mg base (L2N.CX P w) 3 Z.f_regular_row Z.d_regular_row ["p", "q"] (spR K 2 (rRegRow Z.C_BadFraction Z.C_NoRegularRow)) := by
  refine okN T.F_regular_row sc_regular_row spR_len (fun cdv A outer s H vs Q E hr h => ?_)
  refine ⟨_, (pss_cons (ps_expr (pe_call (ok_check_fraction T) (hr.mono (by first | decide | omega)) rfl T.m_check_fraction T.F_check_fraction.kp T.b_check_fraction .nil (L2N.passes_call (L2N.takes_of rfl rfl rfl rfl) (fun _ _ _ _ h => h)) (pa_cons (pv 0) (pa_cons (pv 1) pa_nil))))
    (pss_cons (ps_if (pt_cmpR op_lt (pv 0) pe_int (nomark _)) (pss_one (L2N.ps_raise rfl (L2N.takes_of rfl rfl rfl rfl) (L2N.pmk_own PySem.F.excBase_ValueError T.c_NoRegularRow.x T.m_NoRegularRow T.c_NoRegularRow.k (raises_own T.c_NoRegularRow.b T.c_NoRegularRow.t) rfl))) pss_nil)
    (pss_one (ps_ret (pe_call (ok_regular_of T) (hr.mono (by first | decide | omega)) rfl T.m_regular_of T.F_regular_of.kp T.b_regular_of .nil passN (pa_cons (pv 0) (pa_cons (pv 1) pa_nil))))))), ?_⟩
  obtain ⟨G, ds, r, b, ha, _, ⟨p, q, rfl, er⟩, k⟩ := h
  obtain ⟨v, u, rfl, hv, hu⟩ := rpa2 ha
  cases hf : okFrac p q with
  | none =>
    simp only [hf] at er; subst er
    exact ex_call b (ea_cons (ed_var rfl hv) (ea_cons (ed_var rfl hu) ea_nil)) rfl ⟨p, q, rfl, by simp only [hf]⟩ fun H2 e2 => k H2 e2
  | some pq =>
    obtain ⟨rfl, rfl, h0, h1, h2, h3⟩ := okFrac_some hf
    cases hv; cases hu
    simp only [hf] at er
    refine q_drop K (d := .none) b (ed_call (ea_cons (ed_vI rfl) (ea_cons (ed_vI rfl) ea_nil)) rfl ⟨_, _, rfl, by simp only [hf]⟩) fun G1 H1 w1 => ?_
    by_cases hp : pq.1 < 2
    · rw [if_pos hp] at er; subst er
      exact q_when K (c := true) w1.b (EvB.to (eb_test (ed_lt (ed_vI rfl) ed_int)) (decide_eq_true hp)) (fun _ G2 H2 w2 => k H2 (w1.h.trans w2.h)) fun e => nomatch e
    · rw [if_neg hp] at er; subst er
      refine q_when K (c := false) w1.b (EvB.to (eb_test (ed_lt (ed_vI rfl) ed_int)) (decide_eq_false hp)) (fun e => nomatch e) fun _ G2 H2 w2 => ?_
      have := h3 (by omega)
      exact s_ret K w2.b (ed_call (ea_cons (ed_vI rfl) (ea_cons (ed_vI rfl) ea_nil)) rfl ⟨_, _, rfl, by omega, by omega, rfl⟩) fun v G3 H3 w3 r => k v G3 H3 ((w1.trans w2).trans w3) r
def rMirror (C1 : Addr) : List PyData → Except Addr PyData → Prop := R2' fun p q => match okFrac p q with | none => .error C1 | some pq => .ok (if pq.1 ≠ 0 then tupI (pq.1, -pq.2 % pq.1) else tupI (0, 1))
theorem ok_mirror_fraction (T : Txt K mg Z) : FnOk P w K mg base (L2N.CX P w) 3 Z.f_mirror_fraction Z.d_mirror_fraction ["p", "q"] (spR K 2 (rMirror Z.C_BadFraction)) := by
  refine okN T.F_mirror_fraction sc_mirror_fraction spR_len (fun cdv A outer s H vs Q E hr h => ?_)
  refine ⟨_, (pss_cons (ps_expr (pe_call (ok_check_fraction T) (hr.mono (by first | decide | omega)) rfl T.m_check_fraction T.F_check_fraction.kp T.b_check_fraction .nil (L2N.passes_call (L2N.takes_of rfl rfl rfl rfl) (fun _ _ _ _ h => h)) (pa_cons (pv 0) (pa_cons (pv 1) pa_nil))))
    (pss_one (ps_ret (pe_ifExp (pt_truth (pv 0) (by intro _; rfl)) (pe_tup (pa_cons (pv 0) (pa_cons (pe_op op_mod (pe_un un_neg (pv 1)) (pv 0)) pa_nil))) (pe_tup (pa_cons pe_int (pa_cons pe_int pa_nil))))))), ?_⟩
  obtain ⟨G, ds, r, b, ha, _, ⟨p, q, rfl, er⟩, k⟩ := h
  obtain ⟨v, u, rfl, hv, hu⟩ := rpa2 ha
  cases hf : okFrac p q with
  | none =>
    simp only [hf] at er; subst er
    exact ex_call b (ea_cons (ed_var rfl hv) (ea_cons (ed_var rfl hu) ea_nil)) rfl ⟨p, q, rfl, by simp only [hf]⟩ fun H2 e2 => k H2 e2
  | some pq =>
    obtain ⟨rfl, rfl, h0, h1, h2, h3⟩ := okFrac_some hf
    cases hv; cases hu
    simp only [hf] at er; subst er
    refine q_drop K (d := .none) b (ed_call (ea_cons (ed_vI rfl) (ea_cons (ed_vI rfl) ea_nil)) rfl ⟨_, _, rfl, by simp only [hf]⟩) fun G1 H1 w1 => ?_
    refine s_ret K w1.b (EvD.to (ed_if (eb_truI (ed_vI rfl)) (fun e => ed_tup (ea_cons (ed_vI rfl) (ea_cons (ed_modP (ed_neg (ed_vI rfl)) (ed_vI rfl) ?_) ea_nil))) fun e => ed_tup (ea_cons ed_int (ea_cons ed_int ea_nil))) ?_) fun v G4 H4 w4 r => k v G4 H4 (w1.trans w4) r
    · simp at e; omega
    · by_cases h0 : pq.1 = 0
      · rw [h0]; rfl
      · simp [h0, tupI]
def rOwn (C1 : Addr) : List PyData → Except Addr PyData → Prop := R2' fun p q => match okFrac p q with | none => .error C1 | some pq => .ok (.bool (decide (pq.1 < 3) || ((pq.2 * pq.2 + 1) % pq.1 == 0)))
theorem ok_is_own_mirror (T : Txt K mg Z) : FnOk P w K mg base (L2N.CX P w) 3 Z.f_is_own_mirror Z.d_is_own_mirror ["p", "q"] (spR K 2 (rOwn Z.C_BadFraction)) := by
  refine okN T.F_is_own_mirror sc_is_own_mirror spR_len (fun cdv A outer s H vs Q E hr h => ?_)
  refine ⟨_, (pss_cons (ps_expr (pe_call (ok_check_fraction T) (hr.mono (by first | decide | omega)) rfl T.m_check_fraction T.F_check_fraction.kp T.b_check_fraction .nil (L2N.passes_call (L2N.takes_of rfl rfl rfl rfl) (fun _ _ _ _ h => h)) (pa_cons (pv 0) (pa_cons (pv 1) pa_nil))))
    (pss_one (ps_ret (pe_or (pe_cmpR op_lt (pv 0) pe_int (nomark _)) (pe_one (pe_cmpR (op_eqD hr.units) (pe_op op_mod (pe_op op_add (pe_op op_mul (pv 1) (pv 1)) pe_int) (pv 0)) pe_int (nomark _))))))), ?_⟩
  obtain ⟨G, ds, r, b, ha, _, ⟨p, q, rfl, er⟩, k⟩ := h
  obtain ⟨v, u, rfl, hv, hu⟩ := rpa2 ha
  cases hf : okFrac p q with
  | none =>
    simp only [hf] at er; subst er
    exact ex_call b (ea_cons (ed_var rfl hv) (ea_cons (ed_var rfl hu) ea_nil)) rfl ⟨p, q, rfl, by simp only [hf]⟩ fun H2 e2 => k H2 e2
  | some pq =>
    obtain ⟨rfl, rfl, h0, h1, h2, h3⟩ := okFrac_some hf
    cases hv; cases hu
    simp only [hf] at er; subst er
    refine q_drop K (d := .none) b (ed_call (ea_cons (ed_vI rfl) (ea_cons (ed_vI rfl) ea_nil)) rfl ⟨_, _, rfl, by simp only [hf]⟩) fun G1 H1 w1 => ?_
    refine s_ret K w1.b (ed_orV (ed_lt (ed_vI rfl) ed_int) fun e => ed_eqI (ed_modP (ed_add (ed_mul (ed_vI rfl) (ed_vI rfl) ?_) ed_int) (ed_vI rfl) ?_) ed_int) fun v G4 H4 w4 r => k v G4 H4 (w1.trans w4) r
    · have := of_decide_eq_false e
      have := h3 (by omega)
      left; omega
    · have := of_decide_eq_false e
      omega
def rLeast (C1 : Addr) : List PyData → Except Addr PyData → Prop := R2' fun p q => match okFrac p q with | none => .error C1 | some pq => .ok (.int (if 1 < pq.1 then (regF pq.1 pq.2).sum else 0))
theorem ok_least_crossings (T : Txt K mg Z) : FnOk P w K mg base (L2N.CX P w) 3 Z.f_least_crossings Z.d_least_crossings ["p", "q"] (spR K 2 (rLeast Z.C_BadFraction)) := by
  refine okN T.F_least_crossings sc_least_crossings spR_len (fun cdv A outer s H vs Q E hr h => ?_)
  refine ⟨_, (pss_cons (ps_expr (pe_call (ok_check_fraction T) (hr.mono (by first | decide | omega)) rfl T.m_check_fraction T.F_check_fraction.kp T.b_check_fraction .nil (L2N.passes_call (L2N.takes_of rfl rfl rfl rfl) (fun _ _ _ _ h => h)) (pa_cons (pv 0) (pa_cons (pv 1) pa_nil))))
    (pss_one (ps_ret (pe_ifExp (pt_cmpR op_gt (pv 0) pe_int (nomark _)) (pe_callB (cr_sumT rfl) (by rfl) T.z_sum (by decide +kernel) (pa_cons (pe_call (ok_regular_of T) (hr.mono (by first | decide | omega)) rfl T.m_regular_of T.F_regular_of.kp T.b_regular_of .nil passN (pa_cons (pv 0) (pa_cons (pv 1) pa_nil))) pa_nil)) pe_int)))), ?_⟩
  obtain ⟨G, ds, r, b, ha, _, ⟨p, q, rfl, er⟩, k⟩ := h
  obtain ⟨v, u, rfl, hv, hu⟩ := rpa2 ha
  cases hf : okFrac p q with
  | none =>
    simp only [hf] at er; subst er
    exact ex_call b (ea_cons (ed_var rfl hv) (ea_cons (ed_var rfl hu) ea_nil)) rfl ⟨p, q, rfl, by simp only [hf]⟩ fun H2 e2 => k H2 e2
  | some pq =>
    obtain ⟨rfl, rfl, h0, h1, h2, h3⟩ := okFrac_some hf
    cases hv; cases hu
    simp only [hf] at er; subst er
    refine q_drop K (d := .none) b (ed_call (ea_cons (ed_vI rfl) (ea_cons (ed_vI rfl) ea_nil)) rfl ⟨_, _, rfl, by simp only [hf]⟩) fun G1 H1 w1 => ?_
    refine s_ret K w1.b (EvD.to (ed_if (eb_test (ed_gt (ed_vI rfl) ed_int)) (fun e => ed_sumT (ed_call (ea_cons (ed_vI rfl) (ea_cons (ed_vI rfl) ea_nil)) rfl ⟨_, _, rfl, ?_, ?_, rfl⟩)) fun e => ed_int) ?_) fun v G4 H4 w4 r => k v G4 H4 (w1.trans w4) r
    · have := h3 (by have := of_decide_eq_true e; omega); omega
    · have := h3 (by have := of_decide_eq_true e; omega); omega
    · by_cases hp : 1 < pq.1 <;> simp [hp]
end
end K63
namespace K63
open PySem PySem.Spec PyProof.Rows L2 L3 TF
section
variable {P : Program} {w : World} {K : Fg} {mg : Str → Option Value} {base : Heap} {Z : Ad}
def rEven (C1 C2 : Addr) : List PyData → Except Addr PyData → Prop := R2' fun p e => match okSigned p e with | none => .error C1 | some pe => if (evF pe.1 pe.2).length ≤ 200 then .ok (.tuple (iL (evF pe.1 pe.2))) else .error C2
theorem ok_even_row (T : Txt K mg Z) : FnOk P w K mg base (L2N.CX P w) 3 Z.f_even_row Z.d_even_row ["p", "e"] (spR K 2 (rEven Z.C_BadSignedFraction Z.C_TooLongRow)) := by
  refine okN T.F_even_row sc_even_row spR_len (fun cdv A outer s H vs Q E hr h => ?_)
  refine ⟨_, (pss_cons (ps_expr (pe_call (ok_check_signed T) (hr.mono (by first | decide | omega)) rfl T.m_check_signed T.F_check_signed.kp T.b_check_signed .nil (L2N.passes_call (L2N.takes_of rfl rfl rfl rfl) (fun _ _ _ _ h => h)) (pa_cons (pv 0) (pa_cons (pv 1) pa_nil))))
    (pss_cons (ps_set (i := 2) sc_even_row.nd rfl (by first | exact Or.inl rfl | exact Or.inr rfl) (pe_lst pa_nil))
    (pss_cons (ps_while (passes_of rfl) (pt_truth (pv 1) (by intro _; rfl)) (pss_cons (ps_set (i := 3) sc_even_row.nd rfl (by first | exact Or.inl rfl | exact Or.inr rfl) (pe_op op_fdivN (pv 0) (pv 1)))
    (pss_cons (ps_if (pt_cmpR (op_eqD hr.units) (pe_op op_mod (pv 3) pe_int) pe_int (nomark _)) (pss_one (ps_set (i := 3) sc_even_row.nd rfl (by first | exact Or.inl rfl | exact Or.inr rfl) (pe_op op_add (pv 3) pe_int))) pss_nil)
    (pss_cons (ps_expr (pe_bm PySem.F.plainAttrs_list PySem.F.slot_list_append PySem.F.type_list_append mt_append (pv 2) (pa_cons (pv 3) pa_nil)))
    (pss_cons (ps_if (pt_cmpR op_gt (pe_callB call_len_seq (by rfl) T.z_len (by decide +kernel) (pa_cons (pv 2) pa_nil)) (gl_int T.m_MOST_EVEN) (nomark _)) (pss_one (L2N.ps_raise rfl (L2N.takes_of rfl rfl rfl rfl) (L2N.pmk_own PySem.F.excBase_ValueError T.c_TooLongRow.x T.m_TooLongRow T.c_TooLongRow.k (raises_own T.c_TooLongRow.b T.c_TooLongRow.t) rfl))) pss_nil)
    (pss_one (ps_par (i := 0) (j := 1) (by rfl) sc_even_row.nd rfl rfl (by decide) rfl rfl (pa_cons (pv 1) (pa_cons (pe_op op_sub (pv 0) (pe_op op_mul (pv 3) (pv 1))) pa_nil)) (by rfl))))))))
    (pss_one (ps_ret (pe_callTy call_tuple_of (by rfl) T.z_tuple (by decide +kernel) (pa_cons (pv 2) pa_nil))))))), ?_⟩
  obtain ⟨G, ds, r, b, ha, _, ⟨p, q, rfl, er⟩, k⟩ := h
  obtain ⟨v, u, rfl, hv, hu⟩ := rpa2 ha
  cases hf : okSigned p q with
  | none =>
    simp only [hf] at er; subst er
    exact ex_call b (ea_cons (ed_var rfl hv) (ea_cons (ed_var rfl hu) ea_nil)) rfl ⟨p, q, rfl, by simp only [hf]⟩ fun H2 e2 => k H2 e2
  | some pq =>
    obtain ⟨p, e⟩ := pq
    obtain ⟨rfl, rfl, h0, h1, h2, h3, h4⟩ := okSigned_some hf
    dsimp only at h0 h1 h2 h3 h4 hf er hv hu ha
    cases hv; cases hu
    simp only [hf] at er
    have tooL : ¬ (evF p e).length ≤ 200 → ∀ H1, Same H H1 → E (.ref Z.C_TooLongRow) none H1 := fun hn => by
      rw [if_neg hn] at er; subst er; exact k
    have good : (evF p e).length ≤ 200 → ∀ v G1 H1, Wk G H G1 H1 → Rp K G1 v (.tuple (iL (evF p e))) → Q v H1 := fun hn => by
      rw [if_pos hn] at er; subst er; exact k
    clear k er
    refine q_drop K (d := .none) b (ed_call (ea_cons (ed_vI rfl) (ea_cons (ed_vI rfl) ea_nil)) rfl ⟨_, _, rfl, by simp only [hf]⟩) fun G1 H1 w1 => ?_
    refine q_new w1.b fun f hf => ?_
    have f0 : H f = none := w1.h.free hf
    have w0 : Wk G H G1 (upd H1 f (.lst [])) := w1.trans (Wk.own w1.b hf)
    have he1 : e.natAbs ≤ 1000000000 := by unfold ab at h2; split at h2 <;> omega
    refine q_while K (m0 := e.natAbs) (fun m σ G1 H1 => ∃ p' e' xs y, σ = [some (.int p'), some (.int e'), some (.ref f), y] ∧ p'.natAbs ≤ 1000000000 ∧ e'.natAbs ≤ 1000000000 ∧ (p' + e') % 2 = 1 ∧ m = e'.natAbs ∧ xs ++ evF p' e' = evF p e ∧ xs.length ≤ 200 ∧ G1 f = none ∧ H1 f = some (.lst (xs.map V.int)))
      w0 ⟨p, e, [], none, rfl, by omega, he1, h4, rfl, rfl, Nat.zero_le _, none_of_same w1.b hf, upd_same⟩ ?_
    rintro m σ' G2 H2 w2 ⟨p', e', xs, y, rfl, hp', he', hodd, rfl, hx, hl, gf, hf1⟩
    refine ⟨_, eb_truI (ed_vI rfl), fun c G3 H3 w3 w03 => ?_, fun c G3 H3 w3 w03 => ?_⟩
    · have e0 : e' ≠ 0 := by simpa using c
      have fb := fdiv_bound p' e0
      obtain ⟨r1, r2⟩ := evPart_rest e0 hodd
      have hx' := evF_pos e0 hodd
      refine q_setI K w3.b (ed_div (ed_vI rfl) (ed_vI rfl) ⟨e0, by omega⟩) fun G4 H4 w4 => ?_
      refine q_ifI K (n := evPart p' e') w4.b (eb_test (ed_eqI (ed_modP (ed_vI rfl) ed_int (by decide)) ed_int)) (fun c2 => EvD.to (ed_add (ed_vI rfl) ed_int) ?_) (fun c2 => ?_) fun G5 H5 w5 => ?_
      · have : p'.fdiv e' % 2 = 1 := by simpa using c2
        unfold evPart; rw [if_pos this]
      · have : ¬ p'.fdiv e' % 2 = 1 := by simpa using c2
        unfold evPart; rw [if_neg this]; rfl
      have w35 := (w3.trans w4).trans w5
      have k5 := w35.keep hf1 gf
      refine q_app K w5.b rfl k5.2 k5.1 (by rw [List.length_map]; omega) (ed_vI rfl) fun v G6 H6 w6 gf6 hf6 hv => ?_
      cases hv
      have w06 := Wk.mut (o := .lst (xs.map V.int ++ [.int (evPart p' e')])) (((w2.trans w35).trans w6)) f0 gf6
      refine q_when K (c := decide (200 < xs.length + 1)) w06.b (EvB.to (eb_test (ed_gt (ed_lenO rfl upd_same) ed_int)) ?_) (fun c2 G7 H7 w7 => ?_) fun c2 G7 H7 w7 => ?_
      · rw [List.length_append, List.length_map, List.length_singleton, decide_eq_decide]; omega
      · refine tooL (fun hh => ?_) H7 (w06.h.trans w7.h)
        have := of_decide_eq_true c2
        rw [← hx, hx', List.length_append, List.length_cons] at hh
        omega
      · have c3 := of_decide_eq_false c2
        have k7 := w7.keep (o := .lst (xs.map V.int ++ [.int (evPart p' e')])) upd_same gf6
        have hpart : (evPart p' e').natAbs ≤ 1000000002 := by unfold evPart; split <;> omega
        refine s_parI K w7.b (ea_cons (ed_vI rfl) (ea_cons (ed_sub (ed_vI rfl) (ed_mul (ed_vI rfl) (ed_vI rfl) (.inl ?_))) ea_nil)) fun G8 H8 w8 => ?_
        · omega
        have k8 := w8.keep k7.1 k7.2
        refine ⟨_, G8, r1, (w06.trans w7).trans w8, e', p' - evPart p' e' * e', xs ++ [evPart p' e'], some (.int (evPart p' e')), rfl, he', by omega, r2, rfl, ?_, ?_, k8.2, ?_⟩
        · rw [← hx, hx', List.append_assoc]; rfl
        · rw [List.length_append, List.length_singleton]; omega
        · rw [k8.1, List.map_append]; rfl
    · have e0 : e' = 0 := by simpa using c
      subst e0
      rw [evF_zero, List.append_nil] at hx
      subst hx
      have k3 := w3.keep hf1 gf
      exact s_ret K w3.b (ed_tupO rfl k3.1 (iL_dpa _)) fun v G4 H4 w4 r => good hl v G4 H4 (w03.trans w4) r
def rInv : List PyData → Except Addr PyData → Prop := fun ds r => ∃ p q, ds = [.int p, .int q] ∧ 0 < p ∧ p ≤ 1000000000 ∧ 0 ≤ q ∧ q ≤ 1000000000 ∧ r = .ok (.int (invF p q))
theorem ok_inverse_of (T : Txt K mg Z) : FnOk P w K mg base (L2N.CX P w) 1 Z.f_inverse_of Z.d_inverse_of ["p", "q"] (spR K 2 rInv) := by
  refine okN T.F_inverse_of sc_inverse_of spR_len (fun cdv A outer s H vs Q E hr h => ?_)
  refine ⟨_, (pss_cons (ps_asg (pe_tup (pa_cons pe_int (pa_cons pe_int (pa_cons (pv 0) (pa_cons (pv 1) pa_nil))))) (pg_tup (by rfl) (pgs_cons (pg_name (i := 2) sc_inverse_of.nd rfl (by first | exact Or.inl rfl | exact Or.inr rfl)) (pgs_cons (pg_name (i := 3) sc_inverse_of.nd rfl (by first | exact Or.inl rfl | exact Or.inr rfl)) (pgs_cons (pg_name (i := 4) sc_inverse_of.nd rfl (by first | exact Or.inl rfl | exact Or.inr rfl)) (pgs_cons (pg_name (i := 5) sc_inverse_of.nd rfl (by first | exact Or.inl rfl | exact Or.inr rfl)) pgs_nil))))))
    (pss_cons (ps_while (passes_of rfl) (pt_truth (pv 5) (by intro _; rfl)) (pss_cons (ps_set (i := 6) sc_inverse_of.nd rfl (by first | exact Or.inl rfl | exact Or.inr rfl) (pe_op op_fdiv (pv 4) (pv 5)))
    (pss_one (ps_asg (pe_tup (pa_cons (pv 3) (pa_cons (pe_op op_sub (pv 2) (pe_op op_mul (pv 6) (pv 3))) (pa_cons (pv 5) (pa_cons (pe_op op_sub (pv 4) (pe_op op_mul (pv 6) (pv 5))) pa_nil))))) (pg_tup (by rfl) (pgs_cons (pg_name (i := 2) sc_inverse_of.nd rfl (by first | exact Or.inl rfl | exact Or.inr rfl)) (pgs_cons (pg_name (i := 3) sc_inverse_of.nd rfl (by first | exact Or.inl rfl | exact Or.inr rfl)) (pgs_cons (pg_name (i := 4) sc_inverse_of.nd rfl (by first | exact Or.inl rfl | exact Or.inr rfl)) (pgs_cons (pg_name (i := 5) sc_inverse_of.nd rfl (by first | exact Or.inl rfl | exact Or.inr rfl)) pgs_nil)))))))))
    (pss_one (ps_ret (pe_op op_mod (pv 2) (pv 0)))))), ?_⟩
  obtain ⟨G, ds, r, b, ha, _, ⟨p, q, rfl, p0, p1, q0, q1, rfl⟩, k⟩ := h
  obtain ⟨v, u, rfl, hv, hu⟩ := rpa2 ha
  cases hv; cases hu
  refine q_four K b (ed_tup (ea_cons ed_int (ea_cons ed_int (ea_cons (ed_vI rfl) (ea_cons (ed_vI rfl) ea_nil))))) fun G1 H1 w1 => ?_
  refine q_while K (m0 := q.toNat) (fun m σ G1 H1 => ∃ last here left rest y, σ = [some (.int p), some (.int q), some (.int last), some (.int here), some (.int left), some (.int rest), y] ∧ 0 ≤ left ∧ left ≤ 1000000000 ∧ 0 ≤ rest ∧ rest ≤ 1000000000 ∧ m = rest.toNat ∧ invG last here left rest = invG 0 1 p q)
    w1 ⟨0, 1, p, q, none, rfl, by omega, p1, q0, q1, rfl, rfl⟩ ?_
  rintro m σ' G2 H2 w2 ⟨last, here, left, rest, y, rfl, l0, l1, r0, r1, rfl, hx⟩
  refine ⟨_, eb_truI (ed_vI rfl), fun c G3 H3 w3 w03 => ?_, fun c G3 H3 w3 w03 => ?_⟩
  · have e0 : 0 < rest := by
      have : rest ≠ 0 := by simpa using c
      omega
    have d0 : 0 ≤ left / rest := Int.ediv_nonneg l0 r0
    have d1 : left / rest ≤ left := Int.ediv_le_self _ l0
    have e := rest_is left rest
    have m0 := Int.emod_nonneg left (show rest ≠ 0 by omega)
    have m1 := Int.emod_lt_of_pos left e0
    refine q_setI K w3.b (ed_divP (ed_vI rfl) (ed_vI rfl) ⟨e0, by omega⟩) fun G4 H4 w4 => ?_
    refine s_four K w4.b (ed_tup (ea_cons (ed_vI rfl) (ea_cons (ed_sub (ed_vI rfl) (ed_mul (ed_vI rfl) (ed_vI rfl) (.inl (by omega)))) (ea_cons (ed_vI rfl) (ea_cons (ed_sub (ed_vI rfl) (ed_mul (ed_vI rfl) (ed_vI rfl) (.inl (by omega)))) ea_nil))))) fun G5 H5 w5 => ?_
    exact ⟨_, G5, by omega, ((w2.trans w3).trans w4).trans w5, here, last - left / rest * here, rest, left - left / rest * rest, some (.int (left / rest)), rfl, r0, r1, by omega, by omega, rfl, by rw [← hx, invG_pos e0]⟩
  · have e0 : rest = 0 := by simpa using c
    subst e0
    rw [invG_zero] at hx
    subst hx
    exact s_ret K w3.b (ed_modP (ed_vI rfl) (ed_vI rfl) p0) fun v G4 H4 w4 r => k v G4 H4 (w03.trans w4) r
def rInvF (C1 : Addr) : List PyData → Except Addr PyData → Prop := R2' fun p q => match okFrac p q with | none => .error C1 | some pq => .ok (if 1 < pq.1 then tupI (pq.1, invF pq.1 pq.2) else tupI pq)
theorem ok_inverse_fraction (T : Txt K mg Z) : FnOk P w K mg base (L2N.CX P w) 3 Z.f_inverse_fraction Z.d_inverse_fraction ["p", "q"] (spR K 2 (rInvF Z.C_BadFraction)) := by
  refine okN T.F_inverse_fraction sc_inverse_fraction spR_len (fun cdv A outer s H vs Q E hr h => ?_)
  refine ⟨_, (pss_cons (ps_expr (pe_call (ok_check_fraction T) (hr.mono (by first | decide | omega)) rfl T.m_check_fraction T.F_check_fraction.kp T.b_check_fraction .nil (L2N.passes_call (L2N.takes_of rfl rfl rfl rfl) (fun _ _ _ _ h => h)) (pa_cons (pv 0) (pa_cons (pv 1) pa_nil))))
    (pss_one (ps_ret (pe_ifExp (pt_cmpR op_gt (pv 0) pe_int (nomark _)) (pe_tup (pa_cons (pv 0) (pa_cons (pe_call (ok_inverse_of T) (hr.mono (by first | decide | omega)) rfl T.m_inverse_of T.F_inverse_of.kp T.b_inverse_of .nil passN (pa_cons (pv 0) (pa_cons (pv 1) pa_nil))) pa_nil))) (pe_tup (pa_cons (pv 0) (pa_cons (pv 1) pa_nil))))))), ?_⟩
  obtain ⟨G, ds, r, b, ha, _, ⟨p, q, rfl, er⟩, k⟩ := h
  obtain ⟨v, u, rfl, hv, hu⟩ := rpa2 ha
  cases hf : okFrac p q with
  | none =>
    simp only [hf] at er; subst er
    exact ex_call b (ea_cons (ed_var rfl hv) (ea_cons (ed_var rfl hu) ea_nil)) rfl ⟨p, q, rfl, by simp only [hf]⟩ fun H2 e2 => k H2 e2
  | some pq =>
    obtain ⟨rfl, rfl, h0, h1, h2, h3⟩ := okFrac_some hf
    cases hv; cases hu
    simp only [hf] at er; subst er
    refine q_drop K (d := .none) b (ed_call (ea_cons (ed_vI rfl) (ea_cons (ed_vI rfl) ea_nil)) rfl ⟨_, _, rfl, by simp only [hf]⟩) fun G1 H1 w1 => ?_
    refine s_ret K w1.b (EvD.to (ed_if (eb_test (ed_gt (ed_vI rfl) ed_int)) (fun e => ed_tup (ea_cons (ed_vI rfl) (ea_cons (ed_call (ea_cons (ed_vI rfl) (ea_cons (ed_vI rfl) ea_nil)) rfl ⟨_, _, rfl, ?_, ?_, ?_, ?_, rfl⟩) ea_nil))) fun e => ed_tup (ea_cons (ed_vI rfl) (ea_cons (ed_vI rfl) ea_nil))) ?_) fun v G4 H4 w4 r => k v G4 H4 (w1.trans w4) r
    · have := of_decide_eq_true e; omega
    · omega
    · have := h3 (by have := of_decide_eq_true e; omega); omega
    · have := h3 (by have := of_decide_eq_true e; omega); omega
    · by_cases hp : 1 < pq.1 <;> simp [hp, tupI]
end
end K63
namespace K63
open PySem PySem.Spec PyProof.Rows L2 L3
section
variable {P : Program} {w : World} {K : Fg} {mg : Str → Option Value} {base : Heap} {Z : Ad}
def spTk (K : Fg) (c : Int → Prop) : Sp := fun vs H Q _ => ∃ (G : Hp) (a : Addr) (many : Int) (cl : Addr) (cells : List Int) (i r s : Int), vs = [.ref a, .int many] ∧ Same G H ∧ G a = none ∧ H a = some (.lst [.ref cl, .int i, .int r, .int s]) ∧ SqL K G cl (cells.map V.int) ∧
  (∀ x ∈ cells, 0 ≤ x) ∧ cells.length ≤ 63 ∧ 0 ≤ i ∧ 0 ≤ r ∧ 0 ≤ s ∧ s < 2147483647 ∧ c r ∧ 0 < many ∧ many < 1073741824 ∧
  ∀ d G1 H1, 0 ≤ d → d < many → Wp a G H G1 H1 → Pool K G1 H1 a → Q (.int d) H1
theorem fn_never {k : Nat} {f : Addr} {fd : FuncData} {ps : List Str} {CX : CXT} : FnOk P w K mg base CX k f fd ps (fun _ _ _ _ => False) :=
  ⟨fun _ _ _ _ h => h.elim, fun _ _ _ _ _ _ _ _ _ _ _ _ _ h => h.elim⟩
theorem sum_nn {x y z : Int} (hx : 0 ≤ x) (hy : 0 ≤ y) (hz : 0 ≤ z) : 0 ≤ x * 48271 + y * 69621 + z * 613 := by omega
theorem take_step (T : Txt K mg Z) {n : Nat} {c c' : Int → Prop} (hc : ∀ r, c' r → 0 < r ∨ ∀ x, 0 < x → c x) (ih : FnOk P w K mg base (L2N.CX P w) n Z.f__law_take Z.d__law_take ["pool", "many"] (spTk K c)) :
    FnOk P w K mg base (L2N.CX P w) (n + 1) Z.f__law_take Z.d__law_take ["pool", "many"] (spTk K c') := by
  refine okN T.F__law_take sc__law_take (fun vs H Q E h => by obtain ⟨_, _, _, _, _, _, _, _, rfl, _⟩ := h; rfl) (fun cdv A outer s H vs Q E hr h => ?_)
  have hr' : Room n (A.deeper (envOfC "_law_take" (defScope s__law_take) s.heap.objs.size Z.f__law_take cdv)) := hr
  refine ⟨_, (pss_cons (ps_if (pt_cmpR op_gt (pe_ix ix_two (pv 0) pe_int (fun _ _ => rfl)) pe_int (nomark _)) (pss_cons (ps_set (i := 2) sc__law_take.nd rfl (by first | exact Or.inl rfl | exact Or.inr rfl) (pe_op op_mod (pe_callTy call_int1 (by rfl) T.z_int (by decide +kernel) (pa_cons (pe_ix ix_two (pv 0) pe_int (fun _ _ => rfl)) pa_nil)) (pv 1)))
    (pss_cons (ps_asg (pe_op op_fdiv (pe_ix ix_two (pv 0) pe_int (fun _ _ => rfl)) (pv 1)) (pg_sub (pv 0) pe_int set_list))
    (pss_one (ps_ret (pv 2))))) pss_nil)
    (pss_cons (ps_set (i := 3) sc__law_take.nd rfl (by first | exact Or.inl rfl | exact Or.inr rfl) pe_int)
    (pss_cons (ps_if (pt_cmpR op_lt (pe_ix ix_two (pv 0) pe_int (fun _ _ => rfl)) (pe_callB call_len_seq (by rfl) T.z_len (by decide +kernel) (pa_cons (pe_ix ix_two (pv 0) pe_int (fun _ _ => rfl)) pa_nil)) (nomark _)) (pss_one (ps_set (i := 3) sc__law_take.nd rfl (by first | exact Or.inl rfl | exact Or.inr rfl) (pe_ix ix_two (pe_ix ix_two (pv 0) pe_int (fun _ _ => rfl)) (pe_ix ix_two (pv 0) pe_int (fun _ _ => rfl)) (fun _ _ => rfl)))) pss_nil)
    (pss_cons (ps_asg (pe_op op_add (pe_ix ix_two (pv 0) pe_int (fun _ _ => rfl)) pe_int) (pg_sub (pv 0) pe_int set_list))
    (pss_cons (ps_if (pt_cmpR op_ge (pv 3) (pe_op op_pow pe_int pe_int) (nomark _)) (pss_cons (ps_asg (pe_op op_fdiv (pv 3) pe_int) (pg_sub (pv 0) pe_int set_list))
    (pss_one (ps_ret (pe_call ih (hr.mono (by first | decide | omega)) rfl T.m__law_take T.F__law_take.kp T.b__law_take .nil passN (pa_cons (pv 0) (pa_cons (pv 1) pa_nil)))))) pss_nil)
    (pss_cons (ps_asg (pe_op op_mod (pe_callTy call_int1 (by rfl) T.z_int (by decide +kernel) (pa_cons (pe_op op_add (pe_op op_add (pe_op op_mul (pe_ix ix_two (pv 0) pe_int (fun _ _ => rfl)) pe_int) (pe_op op_mul (pv 3) pe_int)) (pe_op op_mul (pe_ix ix_two (pv 0) pe_int (fun _ _ => rfl)) pe_int)) pa_nil)) pe_int) (pg_sub (pv 0) pe_int set_list))
    (pss_cons (ps_set (i := 4) sc__law_take.nd rfl (by first | exact Or.inl rfl | exact Or.inr rfl) (pe_op op_mod (pe_callTy call_int1 (by rfl) T.z_int (by decide +kernel) (pa_cons (pe_op op_add (pe_op op_add (pe_op op_mul (pe_ix ix_two (pv 0) pe_int (fun _ _ => rfl)) (pe_ix ix_two (pv 0) pe_int (fun _ _ => rfl))) (pe_op op_mul (pe_ix ix_two (pv 0) pe_int (fun _ _ => rfl)) pe_int)) pe_int) pa_nil)) pe_int))
    (pss_one (ps_ret (pe_op op_mod (pe_callTy call_int1 (by rfl) T.z_int (by decide +kernel) (pa_cons (pe_op op_fdiv (pv 4) pe_int) pa_nil)) (pv 1))))))))))), ?_⟩
  obtain ⟨G, a, many, cl, cells, i, r, s, rfl, b, ga, hp, hs, hcl, hlen, i0, r0, s0, s1, hcr, m0, m1, k⟩ := h
  have rc : Rp K G (.ref cl) (.list (iL cells)) := .lst hs (iL_dpa _)
  by_cases hr0 : 0 < r
  · refine q_when K (c := true) b (EvB.to (eb_test (ed_gt (ed_ixO rfl hp rfl (.int r) ed_int) ed_int)) (decide_eq_true hr0)) (fun _ G1 H1 w1 => ?_) fun e => nomatch e
    have k1 := w1.keep hp ga
    refine q_setI K w1.b (ed_modP (ed_toint (ed_ixO rfl k1.1 rfl (.int r) ed_int)) (ed_vI rfl) m0) fun G2 H2 w2 => ?_
    have k2 := w2.keep k1.1 k1.2
    refine q_put K (j := 2) w2.b (ed_divP (ed_ixO rfl k2.1 rfl (.int r) ed_int) (ed_vI rfl) ⟨m0, m1⟩) rfl k2.2 k2.1 rfl fun v G3 H3 w3 g3 hv => ?_
    cases hv
    have w4 : Wp a G H G3 (upd H3 a (.lst [.ref cl, .int i, .int (r / many), .int s])) := (((w1.trans w2).trans w3).wp).mut g3
    refine s_ret K w4.b (ed_vI rfl) fun v G5 H5 w5 hv => ?_
    cases hv
    refine k _ G5 H5 (Int.emod_nonneg _ (by omega)) (Int.emod_lt_of_pos _ m0) (w4.trans w5.wp) (Pool.up ⟨g3, cl, cells, i, r / many, s, upd_same, sql_up w4.g hs, hcl, hlen, i0, Int.ediv_nonneg r0 (by omega), s0, s1⟩ w5)
  · refine q_when K (c := false) b (EvB.to (eb_test (ed_gt (ed_ixO rfl hp rfl (.int r) ed_int) ed_int)) (decide_eq_false hr0)) (fun e => nomatch e) fun _ G1 H1 w1 => ?_
    have k1 := w1.keep hp ga
    refine q_setI K w1.b ed_int fun G2 H2 w2 => ?_
    have k2 := w2.keep k1.1 k1.2
    have w02 := w1.trans w2
    -- the cell
    obtain ⟨cell, hcell, ce⟩ : ∃ cell : Int, 0 ≤ cell ∧ ((i < (cells.length : Int) → cells[i.toNat]? = some cell) ∧ (¬ i < (cells.length : Int) → cell = 0)) := by
      by_cases hi : i < (cells.length : Int)
      · have hg : cells[i.toNat]? = some (cells[i.toNat]'(by omega)) := List.getElem?_eq_getElem (by omega)
        exact ⟨_, hcl _ (List.mem_of_getElem? hg), fun _ => hg, fun z => absurd hi z⟩
      · exact ⟨0, Int.le_refl 0, fun z => absurd z hi, fun _ => rfl⟩
    have h0 := fun G2 H2 (k2 : H2 a = some (.lst [.ref cl, .int i, .int r, .int s])) (w : Same G G2) => @ed_ixO K [some (.ref a), some (.int many), none, some (.int 0), none] G2 H2 (tC (.int 0)) (.list (iL cells)) 0 a _ 0 _ rfl k2 rfl (dp_up w rc) ed_int
    refine q_ifI K (i := 3) (n := cell) (c := decide (i < (cells.length : Int))) w2.b (EvB.to (eb_test (ed_lt (ed_ixO rfl k2.1 rfl (.int i) ed_int) (ed_lenL (h0 G2 H2 k2.1 w02.g)))) (by unfold iL; rw [List.length_map])) (fun e => ?_) (fun e => ?_) fun G3 H3 w3 => ?_
    · have e' := of_decide_eq_true e
      refine ed_ix2L (h0 G2 H2 k2.1 w02.g) (ed_ixO rfl k2.1 rfl (.int i) ed_int) ?_
      have e1 := ce.1 e'
      have e2 : (iL cells)[i.toNat]? = some (.int cell) := by unfold iL; rw [List.getElem?_map, e1]; rfl
      have := atI_nat e2
      rwa [Int.toNat_of_nonneg i0] at this
    · rw [ce.2 (of_decide_eq_false e)]; rfl
    have k3 := w3.keep k2.1 k2.2
    have w03 := w02.trans w3
    refine q_put K (j := 1) w3.b (ed_add (ed_ixO rfl k3.1 rfl (.int i) ed_int) ed_int) rfl k3.2 k3.1 rfl fun v G4 H4 w4 g4 hv => ?_
    cases hv
    have w5 : Wp a G H G4 (upd H4 a (.lst [.ref cl, .int (i + 1), .int r, .int s])) := ((w03.trans w4).wp).mut g4
    have hp5 : (upd H4 a (.lst [.ref cl, .int (i + 1), .int r, .int s])) a = some (.lst [.ref cl, .int (i + 1), .int r, .int s]) := upd_same
    by_cases hbig : (10 : Int) ^ 18 ≤ cell
    · refine q_when K (c := true) w5.b (EvB.to (eb_test (ed_ge (ed_vI rfl) (ed_pow ed_int ed_int ⟨by decide, by decide, by decide⟩))) (decide_eq_true hbig)) (fun _ G6 H6 w6 => ?_) fun e => nomatch e
      have k6 := w6.keep hp5 g4
      refine q_put K (j := 2) w6.b (ed_divP (ed_vI rfl) ed_int ⟨by decide, by decide⟩) rfl k6.2 k6.1 rfl fun v G7 H7 w7 g7 hv => ?_
      cases hv
      have w8 : Wp a G H G7 (upd H7 a (.lst [.ref cl, .int (i + 1), .int (cell / 2), .int s])) := (w5.trans (w6.trans w7).wp).mut g7
      have hh : 0 < cell / 2 := by
        have : (10 : Int) ^ 18 = 1000000000000000000 := by decide
        omega
      refine ⟨_, rfl, _, rfl, G7, a, many, cl, cells, i + 1, cell / 2, s, rfl, w8.b, g7, upd_same, sql_up w8.g hs, hcl, hlen, by omega, by omega, s0, s1, ?_, m0, m1, fun d G9 H9 d0 d1 w9 p9 => k d G9 H9 d0 d1 (w8.trans w9) p9⟩
      rcases hc r hcr with z | z
      · exact absurd z hr0
      · exact z _ hh
    · refine q_when K (c := false) w5.b (EvB.to (eb_test (ed_ge (ed_vI rfl) (ed_pow ed_int ed_int ⟨by decide, by decide, by decide⟩))) (decide_eq_false hbig)) (fun e => nomatch e) fun _ G6 H6 w6 => ?_
      have k6 := w6.keep hp5 g4
      refine q_put K (j := 3) w6.b (ed_modP (ed_toint (ed_add (ed_add (ed_mul (ed_ixO rfl k6.1 rfl (.int s) ed_int) ed_int (.inr ⟨by decide, by decide⟩)) (ed_mul (ed_vI rfl) ed_int (.inr ⟨by decide, by decide⟩))) (ed_mul (ed_ixO rfl k6.1 rfl (.int (i + 1)) ed_int) ed_int (.inr ⟨by decide, by decide⟩)))) ed_int (by decide)) rfl k6.2 k6.1 rfl fun v G7 H7 w7 g7 hv => ?_
      cases hv
      generalize hs' : (s * 48271 + cell * 69621 + (i + 1) * 613) % 2147483647 = s'
      have s'0 : 0 ≤ s' := by rw [← hs']; exact Int.emod_nonneg _ (by decide)
      have s'1 : s' < 2147483647 := by rw [← hs']; exact Int.emod_lt_of_pos _ (by decide)
      have w8 : Wp a G H G7 (upd H7 a (.lst [.ref cl, .int (i + 1), .int r, .int s'])) := (w5.trans (w6.trans w7).wp).mut g7
      have hp8 : (upd H7 a (.lst [.ref cl, .int (i + 1), .int r, .int s'])) a = some (.lst [.ref cl, .int (i + 1), .int r, .int s']) := upd_same
      refine q_setI K w8.b (ed_modP (ed_toint (ed_add (ed_add (ed_mul (ed_ixO rfl hp8 rfl (.int s') ed_int) (ed_ixO rfl hp8 rfl (.int s') ed_int) (.inl ⟨by omega, by omega⟩)) (ed_mul (ed_ixO rfl hp8 rfl (.int s') ed_int) ed_int (.inr ⟨by decide, by decide⟩))) ed_int)) ed_int (by decide)) fun G9 H9 w9 => ?_
      refine s_ret K w9.b (ed_modP (ed_toint (ed_divP (ed_vI rfl) ed_int ⟨by decide, by decide⟩)) (ed_vI rfl) m0) fun v G10 H10 w10 hv => ?_
      cases hv
      exact k _ G10 H10 (Int.emod_nonneg _ (by omega)) (Int.emod_lt_of_pos _ m0) (w8.trans (w9.trans w10).wp)
        (Pool.up ⟨g7, cl, cells, i + 1, r, s', upd_same, sql_up w8.g hs, hcl, hlen, by omega, r0, s'0, s'1⟩ (w9.trans w10))
theorem ok__law_take (T : Txt K mg Z) : FnOk P w K mg base (L2N.CX P w) 2 Z.f__law_take Z.d__law_take ["pool", "many"] (spTake K) := by
  have h1 := take_step (P := P) (w := w) (base := base) T (c := fun _ => False) (c' := fun r => 0 < r) (n := 0) (fun r h => .inl h) (FnOk.imp fn_never fun _ _ _ _ h => by
    obtain ⟨_, _, _, _, _, _, _, _, _, _, _, _, _, _, _, _, _, _, _, h, _⟩ := h; exact h)
  have h2 := take_step (P := P) (w := w) (base := base) T (c := fun r => 0 < r) (c' := fun _ => True) (n := 1) (fun r _ => .inr fun x h => h) h1
  refine FnOk.imp h2 fun vs H Q E h => ?_
  obtain ⟨G, a, many, rfl, b, ⟨ga, cl, cells, i, r, s, hp, hs, h1, h2, h3, h4, h5, h6⟩, m0, m1, k⟩ := h
  exact ⟨G, a, many, cl, cells, i, r, s, rfl, b, ga, hp, hs, h1, h2, h3, h4, h5, h6, trivial, m0, m1, k⟩
end
end K63
namespace K63
open PySem PySem.Spec PyProof.Rows L2 L3 TF
section
variable {P : Program} {w : World} {K : Fg} {mg : Str → Option Value} {base : Heap} {Z : Ad}
theorem ok__law_is_integer (T : Txt K mg Z) : FnOk P w K mg base (L2N.CX P w) 1 Z.f__law_is_integer Z.d__law_is_integer ["actual"] (spR K 1 (R1 fun d => .ok (.bool (isW d)))) := by
  refine okN T.F__law_is_integer sc__law_is_integer spR_len (fun cdv A outer s H vs Q E hr h => ?_)
  refine ⟨_, (pss_one (ps_ret (pe_and (pe_callB call_isi (by rfl) T.z_isinstance (by decide +kernel) (pa_cons (pv 0) (pa_cons (pe_bltn (v := .ty "int") (by rfl) T.z_int (by decide +kernel) rfl) pa_nil))) (pe_one (pe_not (pe_callB call_isi (by rfl) T.z_isinstance (by decide +kernel) (pa_cons (pv 0) (pa_cons (pe_bltn (v := .ty "bool") (by rfl) T.z_bool (by decide +kernel) rfl) pa_nil)))))))), ?_⟩
  obtain ⟨G, ds, r, b, ha, _, ⟨d, rfl, rfl⟩, k⟩ := h
  obtain ⟨v, rfl, hv⟩ := rpa1 ha
  refine s_ret K (d := .bool (isW d)) b ?_ k
  rw [← isW_eq]
  exact ed_andV (ed_isi (ed_var rfl hv) (kb_int d)) fun _ => ed_notV (ed_isi (ed_var rfl hv) (kb_bool d))
theorem ok__law_pool (T : Txt K mg Z) : FnOk P w K mg base (L2N.CX P w) 1 Z.f__law_pool Z.d__law_pool ["script"] (spPool K) := by
  refine okN T.F__law_pool sc__law_pool spPool_len (fun cdv A outer s H vs Q E hr h => ?_)
  refine ⟨_, (pss_one (ps_ret (pe_lst (pa_cons (pe_lc (own := [("cell", 1)]) rfl sc__law_pool.nd (pi_list (pv 0)) (blkOk_by (own := [("cell", 1)]) (N := ["script", "cell"]) (sc := defScope s__law_pool) (by decide +kernel)) (fun _ _ _ _ _ => (pg_name (i := 1) sc__law_pool.nd rfl (by first | exact Or.inl rfl | exact Or.inr rfl))) (fun _ _ _ _ _ => pts_nil) (fun _ _ _ _ _ => (pe_ifExp (pt_cmpR op_ge (pv 1) pe_int (nomark _)) (pe_op op_mul pe_int (pv 1)) (pe_op op_sub (pe_op op_mul (pe_un un_neg pe_int) (pv 1)) pe_int)))) (pa_cons pe_int (pa_cons pe_int (pa_cons pe_int pa_nil))))))), ?_⟩
  obtain ⟨G, a, ns, rfl, b, hs, hl, k⟩ := h
  have hv : Rp K G (.ref a) (.list (iL ns)) := .lst hs (iL_dpa _)
  have hc : EvD K _ _ G H _ := ed_mapL (te := tIf (tTest (tOp (rI0 fun i j => .bl (decide (j ≤ i))) (tVar 1) (tC (.int 0)))) (tOp (rI CMul fun i j => .int (i * j)) (tC (.int 2)) (tVar 1)) (tOp (rI0 fun i j => .int (i - j)) (tOp (rI CMul fun i j => .int (i * j)) (tUn (rU fun i => .int (-i)) (tC (.int 2))) (tVar 1)) (tC (.int 1))))
    (σ := [some (.ref a), none]) (j := 1) (vs := [1]) (tl := tVar 0) (fun x => match x with | .int i => if decide (0 ≤ i) = true then .int (2 * i) else .int (-2 * i - 1) | _ => .none) (ed_var rfl hv) (by unfold iL; rw [List.length_map]; omega) (fun _ => rfl)
    (fun d hd v G1 H1 w1 hv => by
      obtain ⟨i, _, rfl⟩ : ∃ i, i ∈ ns ∧ PyData.int i = d := List.mem_map.mp hd
      cases hv
      exact ed_if (eb_test (ed_ge (ed_vI rfl) ed_int)) (fun _ => ed_mul ed_int (ed_vI rfl) (.inl ⟨by decide, by decide⟩)) fun _ => ed_sub (ed_mul (ed_neg ed_int) (ed_vI rfl) (.inl ⟨by decide, by decide⟩)) ed_int)
  refine s_retL b (ea_cons hc (ea_cons ed_int (ea_cons ed_int (ea_cons ed_int ea_nil)))) fun vs G1 H1 p w1 hvs hp => ?_
  cases hvs with
  | cons h1 hvs =>
    cases hvs with
    | cons h2 hvs =>
      cases hvs with
      | cons h3 hvs =>
        cases hvs with
        | cons h4 hvs =>
          cases hvs; cases h2; cases h3; cases h4
          cases h1 with
          | @lst c xs _ hs1 hr1 =>
            have wo : Wk G1 H1 G1 (upd H1 p (.lst [.ref c, .int 0, .int 0, .int 17])) := Wk.own w1.b hp
            have ex : (iL ns).map (fun x => match x with | .int i => if decide (0 ≤ i) = true then PyData.int (2 * i) else .int (-2 * i - 1) | _ => .none) = iL (ns.map fun i => if 0 ≤ i then 2 * i else -2 * i - 1) := by
              unfold iL
              rw [List.map_map, List.map_map]
              refine List.map_congr_left fun i _ => ?_
              show (if decide (0 ≤ i) = true then PyData.int (2 * i) else .int (-2 * i - 1)) = .int (if 0 ≤ i then 2 * i else -2 * i - 1)
              by_cases h : 0 ≤ i <;> simp [h]
            rw [ex] at hr1
            have e := dpa_iL hr1
            subst e
            refine k p G1 _ (w1.h.free hp) (w1.trans wo) ⟨none_of_same w1.b hp, c, _, 0, 0, 17, upd_same, hs1, fun x hx => ?_, by rw [List.length_map]; exact hl, by decide, by decide, by decide, by decide⟩
            obtain ⟨i, _, rfl⟩ := List.mem_map.mp hx
            split <;> omega
theorem ok__law_pick (T : Txt K mg Z) : FnOk P w K mg base (L2N.CX P w) 3 Z.f__law_pick Z.d__law_pick ["pool", "rows"] (spPick K) := by
  refine okN T.F__law_pick sc__law_pick spPick_len (fun cdv A outer s H vs Q E hr h => ?_)
  refine ⟨_, (pss_one (ps_ret (pe_ix ix_two (pv 1) (pe_call (ok__law_take T) (hr.mono (by first | decide | omega)) rfl T.m__law_take T.F__law_take.kp T.b__law_take .nil passN (pa_cons (pv 0) (pa_cons (pe_callB call_len_seq (by rfl) T.z_len (by decide +kernel) (pa_cons (pv 1) pa_nil)) pa_nil))) (fun _ _ => rfl)))), ?_⟩
  obtain ⟨G, a, x, d, ds, rfl, b, hp, hx, hd, hne, hl, k⟩ := h
  have hpos : 0 < ds.length := by cases ds with | nil => exact absurd rfl hne | cons _ _ => exact Nat.succ_pos _
  refine ⟨_, rfl, _, rfl, ?_⟩
  refine (ed_lenS (K := K) (ed_var (i := 1) rfl hx) hd) G H (Wk.refl b) _ fun v G1 H1 w1 hv => ?_
  cases hv
  refine ⟨G1, a, ds.length, rfl, w1.b, hp.up w1, by omega, by omega, fun z G2 H2 z0 z1 w2 p2 => ?_⟩
  have hx2 := dp_up (w1.g.trans w2.g) hx
  have hg : ds[z.toNat]? = some (ds[z.toNat]'(by omega)) := List.getElem?_eq_getElem (by omega)
  have hat : atI ds z = some (ds[z.toNat]'(by omega)) := by
    have := atI_nat hg
    rwa [Int.toNat_of_nonneg z0] at this
  rcases hd with rfl | rfl
  · cases hx2 with
    | lst hs hr1 =>
      obtain ⟨v, e1, e2⟩ := atI_rp hr1 hat
      exact .inl ⟨_, _, z, v, rfl, rfl, sql_up w2.b hs, e1, k v _ G2 H2 (List.mem_of_getElem? hg) (w1.wp.trans w2) p2 e2⟩
  · cases hx2 with
    | tup hs hr1 =>
      obtain ⟨v, e1, e2⟩ := atI_rp hr1 hat
      exact .inr ⟨_, _, z, v, rfl, rfl, sqt_up w2.b hs, e1, k v _ G2 H2 (List.mem_of_getElem? hg) (w1.wp.trans w2) p2 e2⟩
/-- a tree is the same as itself -/
def rSame (n : Nat) : List PyData → Except Addr PyData → Prop := fun ds r => ∃ d, ds = [d, d] ∧ d.canLay0 = true ∧ dep d < n ∧ wid d ≤ 400000 ∧ r = .ok (.bool true)
theorem all_true : ∀ (n : Nat), (List.replicate n true).all id = true
  | 0 => rfl
  | n + 1 => by rw [List.replicate_succ, List.all_cons, all_true n]; rfl
theorem rg_map_true (n : Nat) : (rg 0 n).map (fun _ => PyData.bool true) = bL (List.replicate n true) := by
  unfold rg bL
  rw [List.map_map, List.map_replicate]
  refine List.ext_getElem (by simp) fun i h1 h2 => by simp
theorem same_step (T : Txt K mg Z) {n : Nat} (ih : FnOk P w K mg base (L2N.CX P w) (n + 1) Z.f__law_same Z.d__law_same ["actual", "due"] (spR K 2 (rSame n))) :
    FnOk P w K mg base (L2N.CX P w) (n + 1 + 1) Z.f__law_same Z.d__law_same ["actual", "due"] (spR K 2 (rSame (n + 1))) := by
  refine okN T.F__law_same sc__law_same spR_len (fun cdv A outer s H vs Q E hr h => ?_)
  have hr1 : Room (n + 1) (A.deeper (envOfC "_law_same" (defScope s__law_same) s.heap.objs.size Z.f__law_same cdv)) := hr
  refine ⟨_, (pss_cons (ps_if (pt_val (pe_callB call_isi (by rfl) T.z_isinstance (by decide +kernel) (pa_cons (pv 1) (pa_cons (pe_bltn (v := .ty "tuple") (by rfl) T.z_tuple (by decide +kernel) rfl) pa_nil)))) (pss_cons (ps_if (PW.pt (pw_or (pt_not (pt_val (pe_callB call_isi (by rfl) T.z_isinstance (by decide +kernel) (pa_cons (pv 0) (pa_cons (pe_bltn (v := .ty "tuple") (by rfl) T.z_tuple (by decide +kernel) rfl) pa_nil))))) (pw_or1 (pt_cmpR (op_neD hr.units) (pe_callB call_len_seq (by rfl) T.z_len (by decide +kernel) (pa_cons (pv 0) pa_nil)) (pe_callB call_len_seq (by rfl) T.z_len (by decide +kernel) (pa_cons (pv 1) pa_nil)) (nomark _))))) (pss_one (ps_ret pe_bl)) pss_nil)
    (pss_one (ps_ret (pe_callB (cr_all rfl) (by rfl) T.z_all (by decide +kernel) (pa_cons (pe_lc (own := [("k", 2)]) rfl sc__law_same.nd (pi_range1 (by rfl) T.z_range (pa_cons (pe_callB call_len_seq (by rfl) T.z_len (by decide +kernel) (pa_cons (pv 1) pa_nil)) pa_nil)) (blkOk_by (own := [("k", 2)]) (N := ["actual", "due", "k"]) (sc := defScope s__law_same) (by decide +kernel)) (fun _ _ _ _ _ => (pg_name (i := 2) sc__law_same.nd rfl (by first | exact Or.inl rfl | exact Or.inr rfl))) (fun _ _ _ _ _ => pts_nil) (fun _ _ _ _ _ => (pe_call ih (hr.mono (by first | decide | omega)) rfl T.m__law_same T.F__law_same.kp T.b__law_same .nil passN (pa_cons (pe_ix (show IxR _ (rIx2 K) from ix_two) (pv 0) (pv 2) (fun _ _ => rfl)) (pa_cons (pe_ix (show IxR _ (rIx2 K) from ix_two) (pv 1) (pv 2) (fun _ _ => rfl)) pa_nil))))) pa_nil))))) pss_nil)
    (pss_cons (ps_if (pt_val (pe_callB call_isi (by rfl) T.z_isinstance (by decide +kernel) (pa_cons (pv 1) (pa_cons (pe_bltn (v := .ty "list") (by rfl) T.z_list (by decide +kernel) rfl) pa_nil)))) (pss_cons (ps_if (PW.pt (pw_or (pt_not (pt_val (pe_callB call_isi (by rfl) T.z_isinstance (by decide +kernel) (pa_cons (pv 0) (pa_cons (pe_bltn (v := .ty "list") (by rfl) T.z_list (by decide +kernel) rfl) pa_nil))))) (pw_or1 (pt_cmpR (op_neD hr.units) (pe_callB call_len_seq (by rfl) T.z_len (by decide +kernel) (pa_cons (pv 0) pa_nil)) (pe_callB call_len_seq (by rfl) T.z_len (by decide +kernel) (pa_cons (pv 1) pa_nil)) (nomark _))))) (pss_one (ps_ret pe_bl)) pss_nil)
    (pss_one (ps_ret (pe_callB (cr_all rfl) (by rfl) T.z_all (by decide +kernel) (pa_cons (pe_lc (own := [("k", 2)]) rfl sc__law_same.nd (pi_range1 (by rfl) T.z_range (pa_cons (pe_callB call_len_seq (by rfl) T.z_len (by decide +kernel) (pa_cons (pv 1) pa_nil)) pa_nil)) (blkOk_by (own := [("k", 2)]) (N := ["actual", "due", "k"]) (sc := defScope s__law_same) (by decide +kernel)) (fun _ _ _ _ _ => (pg_name (i := 2) sc__law_same.nd rfl (by first | exact Or.inl rfl | exact Or.inr rfl))) (fun _ _ _ _ _ => pts_nil) (fun _ _ _ _ _ => (pe_call ih (hr.mono (by first | decide | omega)) rfl T.m__law_same T.F__law_same.kp T.b__law_same .nil passN (pa_cons (pe_ix (show IxR _ (rIx2 K) from ix_two) (pv 0) (pv 2) (fun _ _ => rfl)) (pa_cons (pe_ix (show IxR _ (rIx2 K) from ix_two) (pv 1) (pv 2) (fun _ _ => rfl)) pa_nil))))) pa_nil))))) pss_nil)
    (pss_cons (ps_if (pt_cmpR op_isN (pv 1) pe_non (nomark _)) (pss_one (ps_ret (pe_cmpR op_isN (pv 0) pe_non (nomark _)))) pss_nil)
    (pss_cons (ps_if (pt_val (pe_callB call_isi (by rfl) T.z_isinstance (by decide +kernel) (pa_cons (pv 1) (pa_cons (pe_bltn (v := .ty "bool") (by rfl) T.z_bool (by decide +kernel) rfl) pa_nil)))) (pss_one (ps_ret (pe_and (pe_callB call_isi (by rfl) T.z_isinstance (by decide +kernel) (pa_cons (pv 0) (pa_cons (pe_bltn (v := .ty "bool") (by rfl) T.z_bool (by decide +kernel) rfl) pa_nil))) (pe_one (pe_cmpR (op_eqD hr.units) (pv 0) (pv 1) (nomark _)))))) pss_nil)
    (pss_cons (ps_if (pt_val (pe_callB call_isi (by rfl) T.z_isinstance (by decide +kernel) (pa_cons (pv 1) (pa_cons (pe_bltn (v := .ty "str") (by rfl) T.z_str (by decide +kernel) rfl) pa_nil)))) (pss_one (ps_ret (pe_and (pe_callB call_isi (by rfl) T.z_isinstance (by decide +kernel) (pa_cons (pv 0) (pa_cons (pe_bltn (v := .ty "str") (by rfl) T.z_str (by decide +kernel) rfl) pa_nil))) (pe_one (pe_cmpR (op_eqD hr.units) (pv 0) (pv 1) (nomark _)))))) pss_nil)
    (pss_one (ps_ret (pe_and (pe_call (ok__law_is_integer T) (hr.mono (by first | decide | omega)) rfl T.m__law_is_integer T.F__law_is_integer.kp T.b__law_is_integer .nil passN (pa_cons (pv 0) pa_nil)) (pe_one (pe_cmpR (op_eqD hr.units) (pv 0) (pv 1) (nomark _))))))))))), ?_⟩
  obtain ⟨G, ds, r, b, ha, _, ⟨d, rfl, hlay, hdep, hwid, rfl⟩, k⟩ := h
  obtain ⟨v, u, rfl, hv, hu⟩ := rpa2 ha
  have items : ∀ (es : List PyData) G1 H1 (te : TE), Wk G H G1 H1 → (d = .list es ∨ d = .tuple es) → (∀ (i : Int), 0 ≤ i → i < (es.length : Int) → ∀ G2 H2, Wk G1 H1 G2 H2 → EvD K te [some v, some u, some (.int i)] G2 H2 (.bool true)) →
      EvD K (tCB (rAll K) (tCons (tLc (iRng1 (tCons (tCB (rLen K) (tCons (tVar 1) tNil)) tNil)) (gName 2) tYes te [2]) tNil)) [some v, some u, none] G1 H1 (.bool true) := by
    intro es G1 H1 te w1 hd ht
    have hsz : es.length ≤ 400000 := by
      rcases hd with rfl | rfl <;> exact Nat.le_trans (wid_le _ _ rfl) hwid
    refine EvD.to (ed_all (bs := List.replicate es.length true) (EvD.to (ed_lcR1 (fun _ => true) (fun _ => .bool true) (ea_cons (ed_lenS (ed_var rfl (dp_up w1.g hu)) hd) ea_nil) ⟨by omega, by omega⟩ fun i i0 i1 G2 H2 w2 => turn_n rfl (ht i i0 i1 G2 H2 w2)) ?_)) (by rw [all_true])
    rw [fm_true, Int.toNat_natCast, rg_map_true]
  have item : ∀ (es : List PyData), (d = .list es ∨ d = .tuple es) → ∀ (i : Int), 0 ≤ i → i < (es.length : Int) → ∀ G2 H2, Wk G H G2 H2 → EvD K (tCall (spR K 2 (rSame n)) [] E0 (tCons (tOp (rIx2 K) (tVar 0) (tVar 2)) (tCons (tOp (rIx2 K) (tVar 1) (tVar 2)) tNil))) [some v, some u, some (.int i)] G2 H2 (.bool true) := by
    intro es hd i i0 i1 G2 H2 w2
    have hg : es[i.toNat]? = some (es[i.toNat]'(by omega)) := List.getElem?_eq_getElem (by omega)
    have hat : atI es i = some (es[i.toNat]'(by omega)) := by
      have := atI_nat hg
      rwa [Int.toNat_of_nonneg i0] at this
    have hm := List.mem_of_getElem? hg
    have hl : (es[i.toNat]'(by omega)).canLay0 = true := by
      rcases hd with rfl | rfl <;> exact lay_mem (by simpa only [PyData.canLay0] using hlay) hm
    have hp : dep (es[i.toNat]'(by omega)) < n := by
      have := dep_mem hm
      rcases hd with rfl | rfl <;> (simp only [dep] at hdep; omega)
    have hw : wid (es[i.toNat]'(by omega)) ≤ 400000 := by
      have := wid_mem hm
      rcases hd with rfl | rfl <;> (simp only [wid] at hwid; omega)
    rcases hd with rfl | rfl
    · exact ed_call (ea_cons (ed_ix2L (ed_var rfl (dp_up w2.g hv)) (ed_vI rfl) hat) (ea_cons (ed_ix2L (ed_var rfl (dp_up w2.g hu)) (ed_vI rfl) hat) ea_nil)) rfl ⟨_, rfl, hl, hp, hw, rfl⟩
    · exact ed_call (ea_cons (ed_ix2T (ed_var rfl (dp_up w2.g hv)) (ed_vI rfl) hat) (ea_cons (ed_ix2T (ed_var rfl (dp_up w2.g hu)) (ed_vI rfl) hat) ea_nil)) rfl ⟨_, rfl, hl, hp, hw, rfl⟩
  have kk : ∀ v G1 H1, Wk G H G1 H1 → Rp K G1 v (.bool true) → Q v H1 := k
  clear k
  -- no tuple, then no list, .. are told apart
  by_cases ht : inTup d = true
  · obtain ⟨es, rfl⟩ : ∃ es, d = .tuple es := by
      cases d with
      | tuple es => exact ⟨es, rfl⟩
      | _ => cases ht
    refine q_when K (c := true) b (eb_val (ed_isi (ed_var rfl hu) (kb_tuple _))) (fun _ G1 H1 w1 => ?_) fun e => nomatch e
    refine q_when K (c := false) w1.b (EvB.to (eb_or (eb_not (eb_val (ed_isi (ed_var rfl (dp_up w1.g hv)) (kb_tuple _)))) fun _ => eb_test (ed_neI (ed_lenT (ed_var rfl (dp_up w1.g hv))) (ed_lenT (ed_var rfl (dp_up w1.g hu))))) (by simp [inTup])) (fun e => nomatch e) fun _ G2 H2 w2 => ?_
    exact s_ret K w2.b (items es G2 H2 _ (w1.trans w2) (.inr rfl) fun i i0 i1 G3 H3 w3 => item es (.inr rfl) i i0 i1 G3 H3 ((w1.trans w2).trans w3)) fun v G3 H3 w3 r => kk v G3 H3 ((w1.trans w2).trans w3) r
  refine q_when K (c := false) b (EvB.to (eb_val (ed_isi (ed_var rfl hu) (kb_tuple _))) (by simpa using ht)) (fun e => nomatch e) fun _ G1 H1 w1 => ?_
  by_cases hli : inList d = true
  · obtain ⟨es, rfl⟩ : ∃ es, d = .list es := by
      cases d with
      | list es => exact ⟨es, rfl⟩
      | _ => cases hli
    refine q_when K (c := true) w1.b (eb_val (ed_isi (ed_var rfl (dp_up w1.g hu)) (kb_list _))) (fun _ G2 H2 w2 => ?_) fun e => nomatch e
    have w12 := w1.trans w2
    refine q_when K (c := false) w2.b (EvB.to (eb_or (eb_not (eb_val (ed_isi (ed_var rfl (dp_up w12.g hv)) (kb_list _)))) fun _ => eb_test (ed_neI (ed_lenL (ed_var rfl (dp_up w12.g hv))) (ed_lenL (ed_var rfl (dp_up w12.g hu))))) (by simp [inList])) (fun e => nomatch e) fun _ G3 H3 w3 => ?_
    exact s_ret K w3.b (items es G3 H3 _ (w12.trans w3) (.inl rfl) fun i i0 i1 G4 H4 w4 => item es (.inl rfl) i i0 i1 G4 H4 ((w12.trans w3).trans w4)) fun v G4 H4 w4 r => kk v G4 H4 ((w12.trans w3).trans w4) r
  refine q_when K (c := false) w1.b (EvB.to (eb_val (ed_isi (ed_var rfl (dp_up w1.g hu)) (kb_list _))) (by simpa using hli)) (fun e => nomatch e) fun _ G2 H2 w2 => ?_
  have w12 := w1.trans w2
  have hv2 := dp_up w12.g hv
  have hu2 := dp_up w12.g hu
  by_cases hn : d = .none
  · subst hn
    refine q_when K (c := true) w2.b (eb_test (ed_isN (ed_var rfl hu2) true rfl)) (fun _ G3 H3 w3 => ?_) fun e => nomatch e
    exact s_ret K w3.b (ed_isN (ed_var rfl (dp_up w3.g hv2)) true rfl) fun v G4 H4 w4 r => kk v G4 H4 ((w12.trans w3).trans w4) r
  refine q_when K (c := false) w2.b (eb_test (ed_isN (ed_var rfl hu2) false (by cases d <;> first | rfl | exact absurd rfl hn))) (fun e => nomatch e) fun _ G3 H3 w3 => ?_
  have w13 := w12.trans w3
  have hv3 := dp_up w3.g hv2
  have hu3 := dp_up w3.g hu2
  by_cases hb : inBool d = true
  · obtain ⟨es, rfl⟩ : ∃ es, d = .bool es := by
      cases d with
      | bool es => exact ⟨es, rfl⟩
      | _ => cases hb
    refine q_when K (c := true) w3.b (eb_val (ed_isi (ed_var rfl hu3) (kb_bool _))) (fun _ G4 H4 w4 => ?_) fun e => nomatch e
    refine s_ret K w4.b (EvD.to (ed_andV (ed_isi (ed_var rfl (dp_up w4.g hv3)) (kb_bool _)) fun _ => ed_eq (ed_var rfl (dp_up w4.g hv3)) (ed_var rfl (dp_up w4.g hu3)) rfl rfl) ?_) fun v G5 H5 w5 r => kk v G5 H5 ((w13.trans w4).trans w5) r
    show PyData.bool (true && (es == es)) = _
    simp
  refine q_when K (c := false) w3.b (EvB.to (eb_val (ed_isi (ed_var rfl hu3) (kb_bool _))) (by simpa using hb)) (fun e => nomatch e) fun _ G4 H4 w4 => ?_
  have w14 := w13.trans w4
  have hv4 := dp_up w4.g hv3
  have hu4 := dp_up w4.g hu3
  by_cases hst : inStr d = true
  · obtain ⟨es, rfl⟩ : ∃ es, d = .str es := by
      cases d with
      | str es => exact ⟨es, rfl⟩
      | _ => cases hst
    refine q_when K (c := true) w4.b (eb_val (ed_isi (ed_var rfl hu4) (kb_str _))) (fun _ G5 H5 w5 => ?_) fun e => nomatch e
    have hsh : SeqAt.shaped (.str es) = true := by
      unfold SeqAt.shaped; rw [hlay]; rfl
    refine s_ret K w5.b (EvD.to (ed_andV (ed_isi (ed_var rfl (dp_up w5.g hv4)) (kb_str _)) fun _ => ed_eq (ed_var rfl (dp_up w5.g hv4)) (ed_var rfl (dp_up w5.g hu4)) hsh hsh) ?_) fun v G6 H6 w6 r => kk v G6 H6 ((w14.trans w5).trans w6) r
    show PyData.bool (true && (es == es)) = _
    simp
  refine q_when K (c := false) w4.b (EvB.to (eb_val (ed_isi (ed_var rfl hu4) (kb_str _))) (by simpa using hst)) (fun e => nomatch e) fun _ G5 H5 w5 => ?_
  obtain ⟨i, rfl⟩ : ∃ i, d = .int i := by
    cases d with
    | int i => exact ⟨i, rfl⟩
    | none => exact absurd rfl hn
    | bool _ => exact absurd rfl hb
    | str _ => exact absurd rfl hst
    | list _ => exact absurd rfl hli
    | tuple _ => exact absurd rfl ht
    | dict _ => simp [PyData.canLay0] at hlay
  refine s_ret K w5.b (EvD.to (ed_andV (ed_call (ea_cons (ed_var rfl (dp_up w5.g hv4)) ea_nil) rfl ⟨_, rfl, rfl⟩) fun _ => ed_eq (ed_var rfl (dp_up w5.g hv4)) (ed_var rfl (dp_up w5.g hu4)) rfl rfl) ?_) fun v G6 H6 w6 r => kk v G6 H6 ((w14.trans w5).trans w6) r
  show PyData.bool (true && (i == i)) = _
  simp
theorem ok_same (T : Txt K mg Z) : ∀ n, FnOk P w K mg base (L2N.CX P w) (n + 1) Z.f__law_same Z.d__law_same ["actual", "due"] (spR K 2 (rSame n))
  | 0 => FnOk.imp fn_never fun vs H Q E h => by
    obtain ⟨_, _, _, _, _, _, ⟨_, _, _, z, _⟩, _⟩ := h
    exact absurd z (Nat.not_lt_zero _)
  | n + 1 => same_step T (ok_same T n)
/-- trees of a depth below 8 -/
theorem ok__law_same (T : Txt K mg Z) : FnOk P w K mg base (L2N.CX P w) 9 Z.f__law_same Z.d__law_same ["actual", "due"] (spR K 2 (rSame 8)) := ok_same T 8
end
end K63
namespace K63
open PySem PySem.Spec PyProof.Rows L2 L3 TF
section
variable {P : Program} {w : World} {K : Fg} {mg : Str → Option Value} {base : Heap} {Z : Ad}
/-- the greatest common divisor of two numbers of at most 200 bits -/
def rCommon : List PyData → Except Addr PyData → Prop := fun ds r => ∃ i j, ds = [.int i, .int j] ∧ i.natAbs < 2 ^ 200 ∧ j.natAbs < 2 ^ 200 ∧ r = .ok (.int ((Nat.gcd i.natAbs j.natAbs : Nat) : Int))
theorem ab_eq (i : Int) : ab i = (i.natAbs : Int) := by unfold ab; split <;> omega
theorem ok__law_common (T : Txt K mg Z) : FnOk P w K mg base (L2N.CX P w) 1 Z.f__law_common Z.d__law_common ["one", "other"] (spR K 2 rCommon) := by
  refine okN T.F__law_common sc__law_common spR_len (fun cdv A outer s H vs Q E hr h => ?_)
  refine ⟨_, (pss_cons (ps_par (i := 0) (j := 1) (by rfl) sc__law_common.nd rfl rfl (by decide) rfl rfl (pa_cons (pe_callB call_abs (by rfl) T.z_abs (by decide +kernel) (pa_cons (pv 0) pa_nil)) (pa_cons (pe_callB call_abs (by rfl) T.z_abs (by decide +kernel) (pa_cons (pv 1) pa_nil)) pa_nil)) (by rfl))
    (pss_cons (ps_for (passes_of rfl) rfl (pi_range1 (by rfl) T.z_range (pa_cons pe_int pa_nil)) (pg_name (i := 2) sc__law_common.nd rfl (by first | exact Or.inl rfl | exact Or.inr rfl)) (pss_cons (ps_if (pt_cmpR (op_eqD hr.units) (pv 1) pe_int (nomark _)) (pss_one ps_break) pss_nil)
    (pss_one (ps_par (i := 0) (j := 1) (by rfl) sc__law_common.nd rfl rfl (by decide) rfl rfl (pa_cons (pv 1) (pa_cons (pe_op op_sub (pv 0) (pe_op op_mulW (pv 1) (pe_callTy call_int1 (by rfl) T.z_int (by decide +kernel) (pa_cons (pe_op op_fdivW (pv 0) (pv 1)) pa_nil)))) pa_nil)) (by rfl)))))
    (pss_one (ps_ret (pv 0))))), ?_⟩
  obtain ⟨G, ds, r, b, ha, _, ⟨a0, b0, rfl, hi, hj, rfl⟩, k⟩ := h
  obtain ⟨v, u, rfl, hv, hu⟩ := rpa2 ha
  cases hv; cases hu
  refine q_parI K b (ea_cons (ed_abs (ed_vI rfl)) (ea_cons (ed_abs (ed_vI rfl)) ea_nil)) fun G1 H1 w1 => ?_
  have ea : (if a0 < 0 then -a0 else a0) = (a0.natAbs : Int) := ab_eq a0
  have eb : (if b0 < 0 then -b0 else b0) = (b0.natAbs : Int) := ab_eq b0
  rw [ea, eb]
  have p200 : (2 : Int) ^ 200 = ((2 ^ 200 : Nat) : Int) := by simp
  have lim := reg_log 200 (a0.natAbs : Int) (b0.natAbs : Int) (by omega) (by rw [p200]; exact_mod_cast hj) 401 (by omega)
  have p200' : (2 : Nat) ^ 200 = 1606938044258990275541962092341162602522202993782792835301376 := by decide
  refine q_forR1 K (fun i σ _ _ => ∃ x y t, σ = [some (.int x), some (.int y), t] ∧ 0 ≤ x ∧ 0 ≤ y ∧ x.natAbs < 2 ^ 200 ∧ y.natAbs < 2 ^ 200 ∧ Nat.gcd x.natAbs y.natAbs = Nat.gcd a0.natAbs b0.natAbs ∧ ∃ pre n, pre.length = i ∧ i + n = 401 ∧ reg 401 (a0.natAbs : Int) (b0.natAbs : Int) = pre ++ reg n x y)
    w1 (ea_cons ed_int ea_nil) (by decide) (fun G2 H2 w2 => ⟨_, _, _, rfl, by omega, by omega, by simpa using hi, by simpa using hj, by simp, [], 401, rfl, rfl, rfl⟩) ?_ ?_
  · rintro i σ' G2 H2 hi' w2 e2 ⟨x, y, t, rfl, hx, hy, hx2, hy2, hg, pre, n, hp, hn, hr'⟩
    by_cases hy0 : y = 0
    · subst hy0
      refine q_when K (c := true) w2.b (EvB.to (eb_test (ed_eqI (ed_vI rfl) ed_int)) rfl) (fun _ G3 H3 w3 => ?_) fun e => nomatch e
      refine s_ret K w3.b (ed_vI rfl) fun v G4 H4 w4 hv => k v G4 H4 ((w2.trans w3).trans w4) ?_
      cases hv
      have : x = ((Nat.gcd a0.natAbs b0.natAbs : Nat) : Int) := by
        rw [← hg]; simp; omega
      rw [← this]; exact .int _
    · refine q_when K (c := false) w2.b (EvB.to (eb_test (ed_eqI (ed_vI rfl) ed_int)) (by simpa using hy0)) (fun e => nomatch e) fun _ G3 H3 w3 => ?_
      have e := rest_is x y
      have m0 := Int.emod_nonneg x hy0
      have m1 := Int.emod_lt_of_pos x (show 0 < y by omega)
      have hlen := lim.2
      have q0 : 0 ≤ x / y := Int.ediv_nonneg hx hy
      have q1 : x / y ≤ x := Int.ediv_le_self _ hx
      refine s_parI K w3.b (ea_cons (ed_vI rfl) (ea_cons (ed_sub (ed_vI rfl) (ed_mulW (ed_vI rfl) (ed_toint (ed_divW (ed_vI rfl) (ed_vI rfl) (wide_div (b := 200) (by omega) hy2 (by decide) (by decide)))) (wide_mul (a := 200) (b := 200) hy2 (by omega) (by decide) (by decide) (by decide)))) ea_nil)) fun G4 H4 w4 => ?_
      have hn1 : n ≠ 0 := by
        rintro rfl
        rw [show reg 0 x y = [] from rfl, List.append_nil] at hr'
        rw [hr'] at hlen; omega
      obtain ⟨m, rfl⟩ : ∃ m, n = m + 1 := ⟨n - 1, by omega⟩
      have ec : x - y * (x / y) = x % y := by rw [Int.mul_comm]; exact e
      refine ⟨G4, (w2.trans w3).trans w4, w3.g.trans w4.g, y, x - y * (x / y), some (.int i), rfl, hy, by omega, hy2, by omega, ?_, pre ++ [x / y], m, by rw [List.length_append, hp]; rfl, by omega, ?_⟩
      · rw [ec, gcd_step hx (by omega), hg]
      · rw [hr', reg_pos hy0, ec, List.append_assoc]; rfl
  · rintro σ' G2 H2 w2 e2 ⟨x, y, t, rfl, hx, hy, hx2, hy2, hg, pre, n, hp, hn, hr'⟩
    exfalso
    have : (20000 : Int).toNat = 20000 := rfl
    omega
theorem ok__law_given (T : Txt K mg Z) : FnOk P w K mg base (L2N.CX P w) 3 Z.f__law_given Z.d__law_given ["pool", "row"] (spGiven K) := by
  refine okN T.F__law_given sc__law_given spGiven_len (fun cdv A outer s H vs Q E hr h => ?_)
  refine ⟨_, (pss_one (ps_ret (pe_ifExp (pt_cmpR (op_eqD hr.units) (pe_call (ok__law_take T) (hr.mono (by first | decide | omega)) rfl T.m__law_take T.F__law_take.kp T.b__law_take .nil passN (pa_cons (pv 0) (pa_cons pe_int pa_nil))) pe_int (nomark _)) (pe_callTy call_list_of (by rfl) T.z_list (by decide +kernel) (pa_cons (pv 1) pa_nil)) (pe_callTy call_tuple_of (by rfl) T.z_tuple (by decide +kernel) (pa_cons (pv 1) pa_nil))))), ?_⟩
  obtain ⟨G, a, x, d, ds, rfl, b, hp, hx, hd, k⟩ := h
  refine ⟨_, rfl, G, a, 2, rfl, b, hp, by decide, by decide, fun z G1 H1 z0 z1 w1 p1 => ?_⟩
  refine ⟨.int z, .int 0, .int z, .int 0, rfl, rfl, _, rfl, ?_⟩
  have hx1 := dp_up w1.g hx
  cases PyData.eqv (.int z) (.int 0) with
  | true =>
    refine (ed_listS (K := K) (ed_var (i := 1) rfl hx1) hd) G1 H1 (Wk.refl w1.b) _ fun v G2 H2 w2 hv => ?_
    exact k v _ G2 H2 (.inl rfl) (w1.trans w2.wp) (p1.up w2) hv
  | false =>
    refine (ed_tupS (K := K) (ed_var (i := 1) rfl hx1) hd) G1 H1 (Wk.refl w1.b) _ fun v G2 H2 w2 hv => ?_
    exact k v _ G2 H2 (.inr rfl) (w1.trans w2.wp) (p1.up w2) hv
end
end K63
namespace K63
open PySem PySem.Spec PyProof.Rows L2 L3 TF
section
variable {P : Program} {w : World} {K : Fg} {mg : Str → Option Value} {base : Heap} {Z : Ad}
theorem ok__law_below (T : Txt K mg Z) : FnOk P w K mg base (L2N.CX P w) 3 Z.f__law_below Z.d__law_below ["pool", "many"] (spBelow K) := by
  refine okN T.F__law_below sc__law_below spBelow_len (fun cdv A outer s H vs Q E hr h => ?_)
  refine ⟨_, (pss_cons (ps_set (i := 2) sc__law_below.nd rfl (by first | exact Or.inl rfl | exact Or.inr rfl) pe_int)
    (pss_cons (ps_for (passes_of rfl) rfl (pi_range1 (by rfl) T.z_range (pa_cons pe_int pa_nil)) (pg_name (i := 3) sc__law_below.nd rfl (by first | exact Or.inl rfl | exact Or.inr rfl)) (pss_one (ps_set (i := 2) sc__law_below.nd rfl (by first | exact Or.inl rfl | exact Or.inr rfl) (pe_op op_add (pe_op op_mul (pv 2) (pe_op op_pow pe_int pe_int)) (pe_call (ok__law_take T) (hr.mono (by first | decide | omega)) rfl T.m__law_take T.F__law_take.kp T.b__law_take .nil passN (pa_cons (pv 0) (pa_cons (pe_op op_pow pe_int pe_int) pa_nil)))))))
    (pss_one (ps_ret (pe_op op_mod (pe_callTy call_int1 (by rfl) T.z_int (by decide +kernel) (pa_cons (pv 2) pa_nil)) (pv 1)))))), ?_⟩
  obtain ⟨G, a, many, rfl, b, hp, m0, k⟩ := h
  refine q_setI K b ed_int fun G1 H1 w1 => ?_
  refine ⟨5, rfl, by decide, by decide, ?_⟩
  refine for_range (lo := 0) (n := 5) (fun i σ H' => ∃ (G' : Hp) (f : Int) (t : Option V), σ = [some (.ref a), some (.int many), some (.int f), t] ∧ Wp a G H G' H' ∧ Pool K G' H' a ∧ 0 ≤ f) ⟨G1, 0, none, rfl, w1.wp, hp.up w1, by decide⟩ ?_ ?_
  · rintro i σ' H' hi ⟨G', f, t, rfl, w2, p2, f0⟩
    refine ⟨_, rfl, (ed_pow (K := K) ed_int ed_int ⟨by decide, by decide, by decide⟩) G' H' (Wk.refl w2.b) _ fun v G3 H3 w3 hv => ?_⟩
    cases hv
    refine ⟨_, _, rfl, rfl, .inr ⟨by decide, by decide⟩, _, rfl, ?_⟩
    refine (ed_pow (K := K) ed_int ed_int ⟨by decide, by decide, by decide⟩) G3 H3 (Wk.refl w3.b) _ fun v G4 H4 w4 hv => ?_
    cases hv
    refine ⟨G4, a, _, rfl, w4.b, (p2.up w3).up w4, by decide, by decide, fun z G5 H5 z0 z1 w5 p5 => ?_⟩
    refine ⟨_, _, rfl, rfl, G5, _, _, rfl, ((w2.trans w3.wp).trans w4.wp).trans w5, p5, ?_⟩
    have : 0 ≤ f * 10 ^ (6 : Int).toNat := Int.mul_nonneg f0 (by decide)
    omega
  · rintro σ' H' ⟨G', f, t, rfl, w2, p2, f0⟩
    refine s_ret K w2.b (ed_modP (ed_toint (ed_vI rfl)) (ed_vI rfl) m0) fun v G3 H3 w3 hv => ?_
    cases hv
    exact k _ G3 H3 (Int.emod_nonneg _ (by omega)) (Int.emod_lt_of_pos _ m0) (w2.trans w3.wp) (p2.up w3)
end
end K63
namespace K63
open PySem PySem.Spec PyProof.Rows L2 L3 TF
section
variable {P : Program} {w : World} {K : Fg} {mg : Str → Option Value} {base : Heap} {Z : Ad}
/-- p up to most, q below p without a common divisor -/
def spPair (K : Fg) : Sp := fun vs H Q _ => ∃ (G : Hp) (a : Addr) (most : Int), vs = [.ref a, .int most] ∧ Same G H ∧ Pool K G H a ∧ 2 ≤ most ∧ most ≤ 300000 ∧
  ∀ v p q G1 H1, 2 ≤ p → p ≤ most → 1 ≤ q → q < p → Nat.gcd p.natAbs q.natAbs = 1 → Wp a G H G1 H1 → Pool K G1 H1 a → Rp K G1 v (.tuple [.int p, .int q]) → Q v H1
theorem mem_fm {p : PyData → Bool} {f : PyData → PyData} {ds : List PyData} {e : PyData} (h : e ∈ fm p f ds) : ∃ d ∈ ds, p d = true ∧ f d = e := by
  unfold fm at h
  obtain ⟨d, hd, rfl⟩ := List.mem_map.mp h
  obtain ⟨h1, h2⟩ := List.mem_filter.mp hd
  exact ⟨d, h1, h2, rfl⟩
theorem mem_rg {lo : Int} {n : Nat} {d : PyData} (h : d ∈ rg lo n) : ∃ i : Int, d = .int i ∧ lo ≤ i ∧ i < lo + n := by
  unfold rg at h
  obtain ⟨i, hi, rfl⟩ := List.mem_map.mp h
  have := List.mem_range.mp hi
  exact ⟨_, rfl, by omega, by omega⟩
theorem rg_mem {lo : Int} {n : Nat} {i : Int} (h1 : lo ≤ i) (h2 : i < lo + n) : PyData.int i ∈ rg lo n := by
  unfold rg
  exact List.mem_map.mpr ⟨(i - lo).toNat, List.mem_range.mpr (by omega), by congr 1; omega⟩
theorem fm_mem {p : PyData → Bool} {f : PyData → PyData} {ds : List PyData} {d : PyData} (h : d ∈ ds) (hp : p d = true) : f d ∈ fm p f ds := by
  unfold fm; exact List.mem_map.mpr ⟨d, List.mem_filter.mpr ⟨h, hp⟩, rfl⟩
def unitTo (p : Int) : PyData → Bool
  | .int q => ((Nat.gcd p.natAbs q.natAbs : Nat) : Int) == 1
  | _ => false
theorem small200 {i : Int} (h : i.natAbs < 2 ^ 60) : i.natAbs < 2 ^ 200 := Nat.lt_of_lt_of_le h (Nat.pow_le_pow_right (by decide) (by decide))
theorem ok__law_pair (T : Txt K mg Z) : FnOk P w K mg base (L2N.CX P w) 4 Z.f__law_pair Z.d__law_pair ["pool", "most"] (spPair K) := by
  refine okN T.F__law_pair sc__law_pair (fun vs H Q E h => by obtain ⟨_, _, _, rfl, _⟩ := h; rfl) (fun cdv A outer s H vs Q E hr h => ?_)
  refine ⟨_, (pss_cons (ps_set (i := 2) sc__law_pair.nd rfl (by first | exact Or.inl rfl | exact Or.inr rfl) (pe_op op_add pe_int (pe_call (ok__law_take T) (hr.mono (by first | decide | omega)) rfl T.m__law_take T.F__law_take.kp T.b__law_take .nil passN (pa_cons (pv 0) (pa_cons (pe_op op_sub (pv 1) pe_int) pa_nil)))))
    (pss_cons (ps_setLc (i := 3) (own := [("q", 4)]) rfl sc__law_pair.nd rfl rfl (sw_true rfl rfl rfl (by decide +kernel)) (pi_range2 (by rfl) T.z_range (pa_cons pe_int (pa_cons (pv 2) pa_nil))) (blkOk_by (own := [("q", 4)]) (N := ["pool", "most", "p", "some", "q"]) (sc := defScope s__law_pair) (by decide +kernel)) (fun _ _ _ _ _ => (pg_name (i := 4) sc__law_pair.nd rfl (by first | exact Or.inl rfl | exact Or.inr rfl))) (fun _ _ _ _ _ => (pts_one (pt_cmpR (show OpR _ (compareOp .Eq) (rEqD K) from (op_eqD hr.units)) (pe_call (ok__law_common T) (hr.mono (by first | decide | omega)) rfl T.m__law_common T.F__law_common.kp T.b__law_common .nil passN (pa_cons (pv 2) (pa_cons (pv 4) pa_nil))) pe_int (nomark _)))) (fun _ _ _ _ _ => (pv 4)))
    (pss_one (ps_ret (pe_tup (pa_cons (pv 2) (pa_cons (pe_call (ok__law_pick T) (hr.mono (by first | decide | omega)) rfl T.m__law_pick T.F__law_pick.kp T.b__law_pick .nil passN (pa_cons (pv 0) (pa_cons (pv 3) pa_nil))) pa_nil))))))), ?_⟩
  obtain ⟨G, a, most, rfl, b, hp, m0, m1, k⟩ := h
  refine ⟨_, rfl, _, rfl, _, _, rfl, rfl, G, a, most - 1, rfl, b, hp, by omega, by omega, fun z G1 H1 z0 z1 w1 p1 => ⟨_, _, rfl, rfl, ?_⟩⟩
  have e60 : (2 : Nat) ^ 60 = 1152921504606846976 := by decide
  refine q_set K (d := .list (fm (unitTo (2 + z)) id (rg 1 (2 + z - 1).toNat))) w1.b (ed_lcR2 _ _ (ea_cons ed_int (ea_cons (ed_vI rfl) ea_nil)) ⟨by decide, by decide, by omega, by omega⟩ fun i i0 i1 G2 H2 w2 => ?_) fun x G3 H3 w3 hx => ?_
  · refine turn_t rfl (eb_test (ed_eqI (ed_call (ea_cons (ed_vI rfl) (ea_cons (ed_vI rfl) ea_nil)) rfl ⟨_, _, rfl, small200 (by omega), small200 (by omega), rfl⟩) ed_int)) fun _ => ed_vI rfl
  · have one : PyData.int 1 ∈ fm (unitTo (2 + z)) id (rg 1 (2 + z - 1).toNat) := fm_mem (f := id) (rg_mem (by omega) (by omega)) (by simp [unitTo])
    refine ⟨_, rfl, _, rfl, _, rfl, G3, a, x, _, _, rfl, w3.b, p1.up w3, hx, .inl rfl, List.ne_nil_of_mem one, ?_, fun v e G4 H4 he w4 p4 hv => ⟨by show 2 ≤ sizeLine; decide, fun l hl => ?_⟩⟩
    · have := fm_len (unitTo (2 + z)) id (rg 1 (2 + z - 1).toNat)
      rw [rg_len] at this; omega
    · obtain ⟨d, hd, hu, rfl⟩ := mem_fm he
      obtain ⟨i, rfl, i0, i1⟩ := mem_rg hd
      have wn := Wk.new (o := .tup [.int (2 + z), v]) w4.b hl
      have hg : Nat.gcd (2 + z).natAbs i.natAbs = 1 := by
        have : (((Nat.gcd (2 + z).natAbs i.natAbs : Nat) : Int) == 1) = true := hu
        simp at this; omega
      refine k _ (2 + z) i _ _ (by omega) (by omega) i0 (by omega) hg ((w1.trans w3.wp).trans (w4.trans wn.wp)) (p4.up wn) ?_
      exact .tup (SqT.of upd_same) (.cons (.int _) (.cons (dp_up wn.g hv) .nil))
end
end K63
namespace K63
open PySem PySem.Spec PyProof.Rows L2 L3 TF
section
variable {P : Program} {w : World} {K : Fg} {mg : Str → Option Value} {base : Heap} {Z : Ad}
def rLFrac : List PyData → Except Addr PyData → Prop := fun ds r => ∃ d ns, ds = [d] ∧ (d = .list (iL ns) ∨ d = .tuple (iL ns)) ∧ (∀ n ∈ ns, n.natAbs < 2 ^ 64) ∧ r = .ok (tupI (fracOf ns))
theorem ok__law_fraction (T : Txt K mg Z) : FnOk P w K mg base (L2N.CX P w) 1 Z.f__law_fraction Z.d__law_fraction ["row"] (spR K 1 rLFrac) := by
  refine okN T.F__law_fraction sc__law_fraction spR_len (fun cdv A outer s H vs Q E hr h => ?_)
  refine ⟨_, (pss_cons (ps_asg (pe_tup (pa_cons pe_int (pa_cons pe_int pa_nil))) (pg_tup (by rfl) (pgs_cons (pg_name (i := 1) sc__law_fraction.nd rfl (by first | exact Or.inl rfl | exact Or.inr rfl)) (pgs_cons (pg_name (i := 2) sc__law_fraction.nd rfl (by first | exact Or.inl rfl | exact Or.inr rfl)) pgs_nil))))
    (pss_cons (ps_for (passes_of rfl) rfl (pi_list (pe_revL (pe_callTy call_list_of (by rfl) T.z_list (by decide +kernel) (pa_cons (pv 0) pa_nil)))) (pg_name (i := 3) sc__law_fraction.nd rfl (by first | exact Or.inl rfl | exact Or.inr rfl)) (pss_one (ps_par (i := 1) (j := 2) (by rfl) sc__law_fraction.nd rfl rfl (by decide) rfl rfl (pa_cons (pe_op op_add (pe_op op_mul (pv 3) (pv 1)) (pv 2)) (pa_cons (pv 1) pa_nil)) (by rfl))))
    (pss_cons (ps_if (pt_cmpR op_lt (pv 1) pe_int (nomark _)) (pss_one (ps_par (i := 1) (j := 2) (by rfl) sc__law_fraction.nd rfl rfl (by decide) rfl rfl (pa_cons (pe_un un_neg (pv 1)) (pa_cons (pe_un un_neg (pv 2)) pa_nil)) (by rfl))) pss_nil)
    (pss_one (ps_ret (pe_ifExp (pt_cmpR op_gt (pv 1) pe_int (nomark _)) (pe_tup (pa_cons (pv 1) (pa_cons (pe_op op_mod (pe_callTy call_int1 (by rfl) T.z_int (by decide +kernel) (pa_cons (pv 2) pa_nil)) (pv 1)) pa_nil))) (pe_tup (pa_cons pe_int (pa_cons pe_int pa_nil))))))))), ?_⟩
  obtain ⟨G, ds, r, b, ha, _, ⟨d, ns, rfl, hd, hb, rfl⟩, k⟩ := h
  obtain ⟨v, rfl, hv⟩ := rpa1 ha
  refine q_twoI K b (ed_tup (ea_cons ed_int (ea_cons ed_int ea_nil))) fun G1 H1 w1 => ?_
  have hv1 := dp_up w1.g hv
  refine q_forL K (fun i σ _ _ => ∃ x, σ = [some v, some (.int (((ns.reverse.take i).foldl (fun pq part => (part * pq.1 + pq.2, pq.1)) ((1, 0) : Int × Int)).1)), some (.int (((ns.reverse.take i).foldl (fun pq part => (part * pq.1 + pq.2, pq.1)) ((1, 0) : Int × Int)).2)), x])
    w1 (ds := (iL ns).reverse) (ed_revL (ed_listS (ed_var rfl hv1) hd)) (fun G2 H2 w2 => ⟨none, rfl⟩) ?_ ?_
  · rintro i d x σ' G2 H2 hi hx w2 e2 ⟨y, rfl⟩
    rw [show (iL ns).reverse = ns.reverse.map PyData.int by unfold iL; rw [List.map_reverse], List.getElem?_map] at hi
    cases hn : ns.reverse[i]? with
    | none => rw [hn] at hi; cases hi
    | some n =>
      rw [hn] at hi
      obtain rfl : d = .int n := (Option.some.inj hi).symm
      cases hx
      have hb := hb n (List.mem_reverse.mp (List.mem_of_getElem? hn))
      refine s_parI K w2.b (ea_cons (ed_add (ed_mul (ed_vI rfl) (ed_vI rfl) (.inl ?_)) (ed_vI rfl)) (ea_cons (ed_vI rfl) ea_nil)) fun G3 H3 w3 => ⟨G3, w2.trans w3, w3.g, some (.int n), ?_⟩
      · omega
      · rw [List.take_add_one, hn, List.foldl_append]; rfl
  · rintro σ' G2 H2 w2 e2 ⟨y, rfl⟩
    rw [show ns.reverse.take (iL ns).reverse.length = ns.reverse by rw [List.take_of_length_le]; simp [iL]]
    have ef : ns.reverse.foldl (fun pq part => (part * pq.1 + pq.2, pq.1)) ((1, 0) : Int × Int) = fold1 ns := by
      rw [List.foldl_reverse]; rfl
    rw [ef]
    have fin : ∀ (p q : Int) G3 H3 (o : Option V), 0 ≤ p → Wk G H G3 H3 → norm1 (fold1 ns) = (p, q) →
        tRet (tIf (tTest (tOp (rI0 fun i j => .bl (decide (j < i))) (tVar 1) (tC (.int 0)))) (tTup (tCons (tVar 1) (tCons (tOp (rI (fun _ j => 0 < j) fun i j => .int (i % j)) (tCB rInt (tCons (tVar 2) tNil)) (tVar 1)) tNil))) (tTup (tCons (tC (.int 0)) (tCons (tC (.int 1)) tNil)))) { nx := fun _ H' => Q .non H', rt := Q } [some v, some (.int p), some (.int q), o] H3 := by
      intro p q G3 H3 o hp w3 hn
      refine s_ret K w3.b (EvD.to (ed_if (eb_test (ed_gt (ed_vI rfl) ed_int)) (fun e => ed_tup (ea_cons (ed_vI rfl) (ea_cons (ed_modP (ed_toint (ed_vI rfl)) (ed_vI rfl) ?_) ea_nil))) fun e => ed_tup (ea_cons ed_int (ea_cons ed_int ea_nil))) ?_) fun v G4 H4 w4 r => k v G4 H4 (w3.trans w4) r
      · exact of_decide_eq_true e
      · unfold fracOf tupI
        simp only [hn]
        by_cases h0 : p = 0
        · subst h0; rfl
        · simp [h0, show 0 < p by omega]
    by_cases hlt : (fold1 ns).1 < 0
    · refine q_when K (c := true) w2.b (EvB.to (eb_test (ed_lt (ed_vI rfl) ed_int)) (decide_eq_true hlt)) (fun _ G3 H3 w3 => ?_) fun e => nomatch e
      refine s_parI K w3.b (ea_cons (ed_neg (ed_vI rfl)) (ea_cons (ed_neg (ed_vI rfl)) ea_nil)) fun G4 H4 w4 => ?_
      exact fin _ _ G4 H4 _ (by omega) ((w2.trans w3).trans w4) (by unfold norm1; rw [if_pos hlt])
    · refine q_when K (c := false) w2.b (EvB.to (eb_test (ed_lt (ed_vI rfl) ed_int)) (decide_eq_false hlt)) (fun e => nomatch e) fun _ G3 H3 w3 => ?_
      exact fin _ _ G3 H3 _ (by omega) (w2.trans w3) (by unfold norm1; rw [if_neg hlt])
theorem reg_pre : ∀ (n m : Nat) (p q : Int), n ≤ m → (reg n p q).length < n → reg n p q = reg m p q
  | 0, m, p, q, _, h => by simp at h
  | n + 1, m, p, q, h, hl => by
    obtain ⟨m, rfl⟩ : ∃ k, m = k + 1 := ⟨m - 1, by omega⟩
    by_cases hq : q = 0
    · subst hq; rw [reg_zero, reg_zero]
    · rw [reg_pos hq] at hl ⊢
      rw [reg_pos hq, reg_pre n m q (p % q) (by omega) (by simpa using hl)]
theorem ok__law_regular (T : Txt K mg Z) : FnOk P w K mg base (L2N.CX P w) 1 Z.f__law_regular Z.d__law_regular ["p", "q"] (spR K 2 rReg) := by
  refine okN T.F__law_regular sc__law_regular spR_len (fun cdv A outer s H vs Q E hr h => ?_)
  refine ⟨_, (pss_cons (ps_set (i := 2) sc__law_regular.nd rfl (by first | exact Or.inl rfl | exact Or.inr rfl) (pe_lst pa_nil))
    (pss_cons (ps_for (passes_of rfl) rfl (pi_range1 (by rfl) T.z_range (pa_cons pe_int pa_nil)) (pg_name (i := 3) sc__law_regular.nd rfl (by first | exact Or.inl rfl | exact Or.inr rfl)) (pss_cons (ps_if (pt_cmpR (op_eqD hr.units) (pv 1) pe_int (nomark _)) (pss_one ps_break) pss_nil)
    (pss_cons (ps_expr (pe_bm PySem.F.plainAttrs_list PySem.F.slot_list_append PySem.F.type_list_append mt_append (pv 2) (pa_cons (pe_callTy call_int1 (by rfl) T.z_int (by decide +kernel) (pa_cons (pe_op op_fdiv (pv 0) (pv 1)) pa_nil)) pa_nil)))
    (pss_one (ps_par (i := 0) (j := 1) (by rfl) sc__law_regular.nd rfl rfl (by decide) rfl rfl (pa_cons (pv 1) (pa_cons (pe_op op_mod (pe_callTy call_int1 (by rfl) T.z_int (by decide +kernel) (pa_cons (pv 0) pa_nil)) (pv 1)) pa_nil)) (by rfl))))))
    (pss_one (ps_ret (pe_callTy call_tuple_of (by rfl) T.z_tuple (by decide +kernel) (pa_cons (pv 2) pa_nil)))))), ?_⟩
  obtain ⟨G, ds, r, b, ha, _, ⟨p, q, rfl, q0, q1, rfl⟩, k⟩ := h
  obtain ⟨v, u, rfl, hv, hu⟩ := rpa2 ha
  cases hv; cases hu
  refine q_new b fun f hf => ?_
  have w0 : Wk G H G (upd H f (.lst [])) := Wk.own b hf
  have fin : ∀ xs p' q' o G1 H1, xs = regF p q → Wk G H G1 H1 → G1 f = none → H1 f = some (.lst (xs.map V.int)) → tRet (tCB (rTupOf K) (tCons (tVar 2) tNil)) { nx := fun _ H' => Q .non H', rt := Q } [some (.int p'), some (.int q'), some (.ref f), o] H1 := by
    intro xs p' q' o G1 H1 e w1 g1 h1
    subst e
    exact s_ret K w1.b (ed_tupO rfl h1 (iL_dpa _)) fun v G3 H3 w3 r => k v G3 H3 (w1.trans w3) r
  refine q_forR1 K (fun i σ G1 H1 => ∃ p' q' t xs, σ = [some (.int p'), some (.int q'), some (.ref f), t] ∧ 0 ≤ q' ∧ q' ≤ 1000000000 ∧ xs.length = i ∧ i ≤ 60 ∧ xs ++ regF p' q' = regF p q ∧ G1 f = none ∧ H1 f = some (.lst (xs.map V.int)))
    w0 (ea_cons ed_int ea_nil) (by decide) (fun G1 H1 w1 => ?_) ?_ ?_
  · have k1 := w1.keep (o := .lst []) upd_same (none_of_same b hf)
    exact ⟨p, q, none, [], rfl, q0, q1, rfl, by decide, rfl, k1.2, k1.1⟩
  · rintro i σ' G1 H1 hi w1 e1 ⟨p', q', t, xs, rfl, h0, h1, hxl, hi6, hx, gf, hf1⟩
    by_cases hq0 : q' = 0
    · subst hq0
      refine q_when K (c := true) w1.b (EvB.to (eb_test (ed_eqI (ed_vI rfl) ed_int)) rfl) (fun _ G3 H3 w3 => ?_) fun e => nomatch e
      rw [regF_zero, List.append_nil] at hx
      have k3 := w3.keep hf1 gf
      exact fin xs _ _ _ G3 H3 hx (w1.trans w3) k3.2 k3.1
    · refine q_when K (c := false) w1.b (EvB.to (eb_test (ed_eqI (ed_vI rfl) ed_int)) (by simpa using hq0)) (fun e => nomatch e) fun _ G3 H3 w3 => ?_
      have hq : 0 < q' := by omega
      have k3 := w3.keep hf1 gf
      have hl := regF_len (p := p) q0 q1
      rw [← hx, regF_pos hq h1, List.length_append, List.length_cons] at hl
      refine q_app K w3.b rfl k3.2 k3.1 (by rw [List.length_map]; omega) (ed_toint (ed_divP (ed_vI rfl) (ed_vI rfl) ⟨hq, by omega⟩)) fun v G4 H4 w4 gf4 hf4 hv => ?_
      cases hv
      have w5 : Wk G H G4 (upd H4 f (.lst (xs.map V.int ++ [.int (p' / q')]))) := Wk.mut ((w1.trans w3).trans w4) hf gf4
      refine s_parI K w5.b (ea_cons (ed_vI rfl) (ea_cons (ed_modP (ed_toint (ed_vI rfl)) (ed_vI rfl) hq) ea_nil)) fun G6 H6 w6 => ?_
      have k6 := w6.keep (o := .lst (xs.map V.int ++ [.int (p' / q')])) upd_same gf4
      have r0 := Int.emod_nonneg p' (show q' ≠ 0 by omega)
      have r1 := Int.emod_lt_of_pos p' hq
      refine ⟨G6, w5.trans w6, (w3.g.trans w4.g).trans w6.g, q', p' % q', some (.int i), xs ++ [p' / q'], rfl, r0, by omega, by rw [List.length_append, hxl]; rfl, by omega, ?_, k6.2, ?_⟩
      · rw [← hx, regF_pos hq h1, List.append_assoc]; rfl
      · rw [k6.1, List.map_append]; rfl
  · rintro σ' G1 H1 w1 e1 ⟨p', q', t, xs, rfl, h0, h1, hxl, hi6, hx, gf, hf1⟩
    exfalso
    have : (100 : Int).toNat = 100 := rfl
    omega
end
end K63
namespace K63
open PySem PySem.Spec PyProof.Rows L2 L3 TF
section
variable {P : Program} {w : World} {K : Fg} {mg : Str → Option Value} {base : Heap} {Z : Ad}
/-- of p + e odd: the first 300 numbers of the even row -/
def rLEven : List PyData → Except Addr PyData → Prop := fun ds r => ∃ p e, ds = [.int p, .int e] ∧ p.natAbs ≤ 1000000000 ∧ e.natAbs ≤ 1000000000 ∧ (p + e) % 2 = 1 ∧ r = .ok (.tuple (iL (evn 300 p e)))
theorem evn_len : ∀ (n : Nat) (p e : Int), (evn n p e).length ≤ n
  | 0, _, _ => Nat.le_refl 0
  | n + 1, p, e => by
    by_cases he : e = 0
    · subst he; rw [evn_zero]; exact Nat.zero_le _
    · rw [evn_pos he, List.length_cons]; have := evn_len n e (p - evPart p e * e); omega
theorem ok__law_even (T : Txt K mg Z) : FnOk P w K mg base (L2N.CX P w) 1 Z.f__law_even Z.d__law_even ["p", "e"] (spR K 2 rLEven) := by
  refine okN T.F__law_even sc__law_even spR_len (fun cdv A outer s H vs Q E hr h => ?_)
  refine ⟨_, (pss_cons (ps_set (i := 2) sc__law_even.nd rfl (by first | exact Or.inl rfl | exact Or.inr rfl) (pe_lst pa_nil))
    (pss_cons (ps_for (passes_of rfl) rfl (pi_range1 (by rfl) T.z_range (pa_cons pe_int pa_nil)) (pg_name (i := 3) sc__law_even.nd rfl (by first | exact Or.inl rfl | exact Or.inr rfl)) (pss_cons (ps_if (pt_cmpR (op_eqD hr.units) (pv 1) pe_int (nomark _)) (pss_one ps_break) pss_nil)
    (pss_cons (ps_par (i := 4) (j := 5) (by rfl) sc__law_even.nd rfl rfl (by decide) rfl rfl (pa_cons pe_non (pa_cons (pe_callTy call_int1 (by rfl) T.z_int (by decide +kernel) (pa_cons (pe_op op_fdivN (pv 0) (pv 1)) pa_nil)) pa_nil)) (by rfl))
    (pss_cons (ps_for (passes_of rfl) rfl (pi_tup (pe_tup (pa_cons (pv 5) (pa_cons (pe_op op_add (pv 5) pe_int) pa_nil)))) (pg_name (i := 6) sc__law_even.nd rfl (by first | exact Or.inl rfl | exact Or.inr rfl)) (pss_one (ps_if (PW.pt (pw_and (pt_cmpR (op_eqD hr.units) (pe_op op_mod (pv 6) pe_int) pe_int (nomark _)) (pw_and1 (PW.pt (pw_or (pt_cmpR op_isN (pv 4) pe_non (nomark _)) (pw_or1 (pt_cmpR op_lt (pe_callB call_abs (by rfl) T.z_abs (by decide +kernel) (pa_cons (pe_op op_sub (pv 0) (pe_op op_mul (pv 6) (pv 1))) pa_nil)) (pe_callB call_abs (by rfl) T.z_abs (by decide +kernel) (pa_cons (pe_op op_sub (pv 0) (pe_op op_mul (pv 4) (pv 1))) pa_nil)) (nomark _)))))))) (pss_one (ps_set (i := 4) sc__law_even.nd rfl (by first | exact Or.inl rfl | exact Or.inr rfl) (pv 6))) pss_nil)))
    (pss_cons (ps_expr (pe_bm PySem.F.plainAttrs_list PySem.F.slot_list_append PySem.F.type_list_append mt_append (pv 2) (pa_cons (pv 4) pa_nil)))
    (pss_one (ps_par (i := 0) (j := 1) (by rfl) sc__law_even.nd rfl rfl (by decide) rfl rfl (pa_cons (pv 1) (pa_cons (pe_op op_sub (pv 0) (pe_op op_mul (pv 4) (pv 1))) pa_nil)) (by rfl))))))))
    (pss_one (ps_ret (pe_callTy call_tuple_of (by rfl) T.z_tuple (by decide +kernel) (pa_cons (pv 2) pa_nil)))))), ?_⟩
  obtain ⟨G, ds, r, b, ha, _, ⟨p, e, rfl, hp, he, ho, rfl⟩, k⟩ := h
  obtain ⟨v, u, rfl, hv, hu⟩ := rpa2 ha
  cases hv; cases hu
  refine q_new b fun f hf => ?_
  have w0 : Wk G H G (upd H f (.lst [])) := Wk.own b hf
  have fin : ∀ xs (σ : L2.St) G1 H1, σ[2]? = some (some (.ref f)) → xs = evn 300 p e → Wk G H G1 H1 → G1 f = none → H1 f = some (.lst (xs.map V.int)) → tRet (tCB (rTupOf K) (tCons (tVar 2) tNil)) { nx := fun _ H' => Q .non H', rt := Q } σ H1 := by
    intro xs σ G1 H1 hs e w1 g1 h1
    subst e
    exact s_ret K w1.b (ed_tupO hs h1 (iL_dpa _)) fun v G3 H3 w3 r => k v G3 H3 (w1.trans w3) r
  refine q_forR1 K (fun i σ G1 H1 => ∃ p' e' t y1 y2 y3 xs, σ = [some (.int p'), some (.int e'), some (.ref f), t, y1, y2, y3] ∧ p'.natAbs ≤ 1000000000 ∧ e'.natAbs ≤ 1000000000 ∧ (p' + e') % 2 = 1 ∧ xs.length = i ∧ i ≤ 300 ∧ xs ++ evn (300 - i) p' e' = evn 300 p e ∧ G1 f = none ∧ H1 f = some (.lst (xs.map V.int)))
    w0 (ea_cons ed_int ea_nil) (by decide) (fun G1 H1 w1 => ?_) ?_ ?_
  · have k1 := w1.keep (o := .lst []) upd_same (none_of_same b hf)
    exact ⟨p, e, none, none, none, none, [], rfl, hp, he, ho, rfl, by decide, rfl, k1.2, k1.1⟩
  · rintro i σ' G1 H1 hi w1 e1 ⟨p', e', t, y1, y2, y3, xs, rfl, hp', he', ho', hxl, hi6, hx, gf, hf1⟩
    by_cases he0 : e' = 0
    · subst he0
      refine q_when K (c := true) w1.b (EvB.to (eb_test (ed_eqI (ed_vI rfl) ed_int)) rfl) (fun _ G3 H3 w3 => ?_) fun e => nomatch e
      rw [evn_zero, List.append_nil] at hx
      have k3 := w3.keep hf1 gf
      exact fin xs _ G3 H3 rfl hx (w1.trans w3) k3.2 k3.1
    · refine q_when K (c := false) w1.b (EvB.to (eb_test (ed_eqI (ed_vI rfl) ed_int)) (by simpa using he0)) (fun e => nomatch e) fun _ G3 H3 w3 => ?_
      have fb := fdiv_bound p' he0
      obtain ⟨r1, r2⟩ := evPart_rest he0 ho'
      have hpart : (evPart p' e').natAbs ≤ 1000000002 := by unfold evPart; split <;> omega
      obtain ⟨n, hn⟩ : ∃ n, 300 - i = n + 1 := ⟨300 - i - 1, by omega⟩
      refine q_par K (d1 := .none) (d2 := .int (p'.fdiv e')) w3.b (ea_cons ed_non (ea_cons (ed_toint (ed_div (ed_vI rfl) (ed_vI rfl) ⟨he0, by omega⟩)) ea_nil)) fun x y G4 H4 w4 hx4 hy4 => ?_
      cases hx4; cases hy4
      -- the even one of low and low + 1
      refine q_forT K (ds := [.int (p'.fdiv e'), .int (p'.fdiv e' + 1)]) (fun j σ G5 H5 => ∃ y3, σ = [some (.int p'), some (.int e'), some (.ref f), some (.int i), some (if (j = 0 ∨ (j = 1 ∧ p'.fdiv e' % 2 = 1)) then V.non else .int (evPart p' e')), some (.int (p'.fdiv e')), y3] ∧ G5 f = none ∧ H5 f = some (.lst (xs.map V.int)))
        ((w1.trans w3).trans w4) (ed_tup (ea_cons (ed_vI rfl) (ea_cons (ed_add (ed_vI rfl) ed_int) ea_nil))) (fun G5 H5 w5 => ?_) ?_ ?_
      · have k5 := ((w3.trans w4).trans w5).keep hf1 gf
        exact ⟨y3, rfl, k5.2, k5.1⟩
      · rintro j d x σ' G5 H5 hj hx5 w5 e5 ⟨y3, rfl, gf5, hf5⟩
        have two : (j = 0 ∧ d = .int (p'.fdiv e')) ∨ (j = 1 ∧ d = .int (p'.fdiv e' + 1)) := by
          match j, hj with
          | 0, hj => exact .inl ⟨rfl, (Option.some.inj hj).symm⟩
          | 1, hj => exact .inr ⟨rfl, (Option.some.inj hj).symm⟩
          | j + 2, hj => simp at hj
        rcases two with ⟨rfl, rfl⟩ | ⟨rfl, rfl⟩
        · cases hx5
          by_cases hev : p'.fdiv e' % 2 = 1
          · refine s_when K (c := false) w5.b (EvB.to (eb_and (b := true) (eb_test (ed_eqI (ed_modP (ed_vI rfl) ed_int (by decide)) ed_int)) fun c => ?_) ?_) (fun c => nomatch c) fun _ G6 H6 w6 => ?_
            · have : p'.fdiv e' % 2 = 0 := by simpa using c
              omega
            · rw [show ((p'.fdiv e' % 2 == 0) = false) by simp; omega]; rfl
            · have k6 := w6.keep hf5 gf5
              refine ⟨G6, w5.trans w6, w6.g, some (.int (p'.fdiv e')), ?_, k6.2, k6.1⟩
              simp [hev]
          · refine s_when K (c := true) w5.b (EvB.to (eb_and (eb_test (ed_eqI (ed_modP (ed_vI rfl) ed_int (by decide)) ed_int)) fun c => eb_or (b := true) (eb_test (ed_isN (ed_var (v := .non) rfl .non) true rfl)) fun c => nomatch c) ?_) (fun _ G6 H6 w6 => ?_) fun c => nomatch c
            · rw [show ((p'.fdiv e' % 2 == 0) = true) by simp; omega]; rfl
            · refine s_setI K w6.b (ed_vI rfl) fun G7 H7 w7 => ?_
              have k7 := (w6.trans w7).keep hf5 gf5
              refine ⟨G7, (w5.trans w6).trans w7, (w6.trans w7).g, some (.int (p'.fdiv e')), ?_, k7.2, k7.1⟩
              have ep : evPart p' e' = p'.fdiv e' := by unfold evPart; rw [if_neg hev]
              simp [hev, ep]
        · cases hx5
          by_cases hev : p'.fdiv e' % 2 = 1
          · refine s_when K (c := true) w5.b (EvB.to (eb_and (eb_test (ed_eqI (ed_modP (ed_vI rfl) ed_int (by decide)) ed_int)) fun c => eb_or (b := true) (eb_test (ed_isN (ed_var (v := .non) (by simp [hev]) .non) true rfl)) fun c => nomatch c) ?_) (fun _ G6 H6 w6 => ?_) fun c => nomatch c
            · rw [show (((p'.fdiv e' + 1) % 2 == 0) = true) by simp; omega]; rfl
            · refine s_setI K w6.b (ed_vI rfl) fun G7 H7 w7 => ?_
              have k7 := (w6.trans w7).keep hf5 gf5
              refine ⟨G7, (w5.trans w6).trans w7, (w6.trans w7).g, some (.int (p'.fdiv e' + 1)), ?_, k7.2, k7.1⟩
              have ep : evPart p' e' = p'.fdiv e' + 1 := by unfold evPart; rw [if_pos hev]
              simp [ep]
          · refine s_when K (c := false) w5.b (EvB.to (eb_and (b := true) (eb_test (ed_eqI (ed_modP (ed_vI rfl) ed_int (by decide)) ed_int)) fun c => ?_) ?_) (fun c => nomatch c) fun _ G6 H6 w6 => ?_
            · have : (p'.fdiv e' + 1) % 2 = 0 := by simpa using c
              omega
            · rw [show (((p'.fdiv e' + 1) % 2 == 0) = false) by simp; omega]; rfl
            · have k6 := w6.keep hf5 gf5
              refine ⟨G6, w5.trans w6, w6.g, some (.int (p'.fdiv e' + 1)), ?_, k6.2, k6.1⟩
              simp [hev]
      · rintro σ' G5 H5 w5 e5 ⟨y3, rfl, gf5, hf5⟩
        have hb : (if ([PyData.int (p'.fdiv e'), .int (p'.fdiv e' + 1)].length = 0 ∨ ([PyData.int (p'.fdiv e'), .int (p'.fdiv e' + 1)].length = 1 ∧ p'.fdiv e' % 2 = 1)) then V.non else .int (evPart p' e')) = .int (evPart p' e') := by simp
        rw [hb]
        refine q_app K w5.b rfl gf5 hf5 (by rw [List.length_map]; omega) (ed_vI rfl) fun v G6 H6 w6 gf6 hf6 hv => ?_
        cases hv
        have w06 := Wk.mut (o := .lst (xs.map V.int ++ [.int (evPart p' e')])) (w5.trans w6) hf gf6
        refine s_parI K w06.b (ea_cons (ed_vI rfl) (ea_cons (ed_sub (ed_vI rfl) (ed_mul (ed_vI rfl) (ed_vI rfl) (.inl ⟨by omega, by omega⟩))) ea_nil)) fun G8 H8 w8 => ?_
        have k8 := w8.keep (o := .lst (xs.map V.int ++ [.int (evPart p' e')])) upd_same gf6
        refine ⟨G8, w06.trans w8, (((w3.trans w4).g.trans e5).trans w6.g).trans w8.g, e', p' - evPart p' e' * e', _, _, _, _, xs ++ [evPart p' e'], rfl, he', by omega, r2, by rw [List.length_append, hxl]; rfl, by omega, ?_, k8.2, ?_⟩
        · rw [← hx, hn, evn_pos he0, show 300 - (i + 1) = n by omega, List.append_assoc]; rfl
        · rw [k8.1, List.map_append]; rfl
  · rintro σ' G1 H1 w1 e1 ⟨p', e', t, y1, y2, y3, xs, rfl, hp', he', ho', hxl, hi6, hx, gf, hf1⟩
    have e3 : (300 : Int).toNat = 300 := rfl
    rw [e3, show 300 - 300 = 0 from rfl, show evn 0 p' e' = [] from rfl, List.append_nil] at hx
    exact fin xs _ G1 H1 rfl hx w1 gf hf1
end
end K63
namespace K63
open PySem PySem.Spec PyProof.Rows L2 L3 TF
section
variable {P : Program} {w : World} {K : Fg} {mg : Str → Option Value} {base : Heap} {Z : Ad}
def spGPair (K : Fg) : Sp := fun vs H Q _ => ∃ (G : Hp) (a : Addr), vs = [.ref a] ∧ Same G H ∧ Pool K G H a ∧
  ∀ v p q G1 H1, 2 ≤ p → p ≤ 1000000000 → 1 ≤ q → q < p → Nat.gcd p.natAbs q.natAbs = 1 → Wp a G H G1 H1 → Pool K G1 H1 a → Rp K G1 v (.tuple [.int p, .int q]) → Q v H1
theorem ok__law_great_pair (T : Txt K mg Z) : FnOk P w K mg base (L2N.CX P w) 4 Z.f__law_great_pair Z.d__law_great_pair ["pool"] (spGPair K) := by
  refine okN T.F__law_great_pair sc__law_great_pair (fun vs H Q E h => by obtain ⟨_, _, rfl, _⟩ := h; rfl) (fun cdv A outer s H vs Q E hr h => ?_)
  refine ⟨_, (pss_cons (ps_par (i := 1) (j := 2) (by rfl) sc__law_great_pair.nd rfl rfl (by decide) rfl rfl (pa_cons (pe_op op_add pe_int (pe_call (ok__law_take T) (hr.mono (by first | decide | omega)) rfl T.m__law_take T.F__law_take.kp T.b__law_take .nil passN (pa_cons (pv 0) (pa_cons (pe_op op_sub (pe_op op_pow pe_int pe_int) pe_int) pa_nil)))) (pa_cons pe_int pa_nil)) (by rfl))
    (pss_cons (ps_for (passes_of rfl) rfl (pi_range1 (by rfl) T.z_range (pa_cons pe_int pa_nil)) (pg_name (i := 3) sc__law_great_pair.nd rfl (by first | exact Or.inl rfl | exact Or.inr rfl)) (pss_cons (ps_set (i := 2) sc__law_great_pair.nd rfl (by first | exact Or.inl rfl | exact Or.inr rfl) (pe_ifExp (pt_cmpR op_gt (pv 1) pe_int (nomark _)) (pe_op op_add pe_int (pe_call (ok__law_below T) (hr.mono (by first | decide | omega)) rfl T.m__law_below T.F__law_below.kp T.b__law_below .nil passN (pa_cons (pv 0) (pa_cons (pe_op op_sub (pv 1) pe_int) pa_nil)))) pe_int))
    (pss_one (ps_if (pt_cmpR (op_eqD hr.units) (pe_call (ok__law_common T) (hr.mono (by first | decide | omega)) rfl T.m__law_common T.F__law_common.kp T.b__law_common .nil passN (pa_cons (pv 1) (pa_cons (pv 2) pa_nil))) pe_int (nomark _)) (pss_one ps_break) pss_nil))))
    (pss_one (ps_ret (pe_ifExp (pt_cmpR (op_eqD hr.units) (pe_call (ok__law_common T) (hr.mono (by first | decide | omega)) rfl T.m__law_common T.F__law_common.kp T.b__law_common .nil passN (pa_cons (pv 1) (pa_cons (pv 2) pa_nil))) pe_int (nomark _)) (pe_tup (pa_cons (pv 1) (pa_cons (pv 2) pa_nil))) (pe_tup (pa_cons (pv 1) (pa_cons pe_int pa_nil)))))))), ?_⟩
  obtain ⟨G, a, rfl, b, hp, k⟩ := h
  refine ⟨_, rfl, _, _, rfl, rfl, ⟨by decide, by decide, by decide⟩, _, _, rfl, rfl, G, a, _, rfl, b, hp, by decide, by decide, fun z G1 H1 z0 z1 w1 p1 => ⟨_, _, rfl, rfl, _, _, rfl, ?_⟩⟩
  have e60 : (2 : Nat) ^ 60 = 1152921504606846976 := by decide
  have e9 : (10 : Int) ^ (9 : Int).toNat - 1 = 999999999 := by decide
  rw [e9] at z1
  generalize hpp : 2 + z = p
  have fin : ∀ q t G' H', Wp a G H G' H' → Pool K G' H' a → 0 ≤ q → q < p →
      tRet (tIf (tTest (tOp (rEqD K) (tCall (spR K 2 rCommon) [] E0 (tCons (tVar 1) (tCons (tVar 2) tNil))) (tC (.int 1)))) (tTup (tCons (tVar 1) (tCons (tVar 2) tNil))) (tTup (tCons (tVar 1) (tCons (tC (.int 1)) tNil)))) { nx := fun _ H' => Q .non H', rt := Q } [some (.ref a), some (.int p), some (.int q), t] H' := by
    intro q t G' H' w2 p2 q0 q1
    refine s_ret K w2.b (ed_if (eb_test (ed_eqI (ed_call (ea_cons (ed_vI rfl) (ea_cons (ed_vI rfl) ea_nil)) rfl ⟨_, _, rfl, small200 (by omega), small200 (by omega), rfl⟩) ed_int)) (fun e => ed_tup (ea_cons (ed_vI rfl) (ea_cons (ed_vI rfl) ea_nil))) fun e => ed_tup (ea_cons (ed_vI rfl) (ea_cons ed_int ea_nil))) fun v G3 H3 w3 hv => ?_
    by_cases hg : Nat.gcd p.natAbs q.natAbs = 1
    · rw [if_pos (by rw [hg]; rfl)] at hv
      have hq : q ≠ 0 := by
        rintro rfl
        simp at hg; omega
      exact k v p q G3 H3 (by omega) (by omega) (by omega) q1 hg (w2.trans w3.wp) (p2.up w3) hv
    · rw [if_neg (by simp; omega)] at hv
      exact k v p 1 G3 H3 (by omega) (by omega) (by omega) (by omega) (by simp) (w2.trans w3.wp) (p2.up w3) hv
  refine ⟨100, rfl, by decide, by decide, ?_⟩
  refine for_range (lo := 0) (n := 100) (fun i σ H' => ∃ (G' : Hp) (q : Int) (t : Option V), σ = [some (.ref a), some (.int p), some (.int q), t] ∧ Wp a G H G' H' ∧ Pool K G' H' a ∧ 0 ≤ q ∧ q < p) ⟨G1, 0, none, by rw [← hpp]; rfl, w1, p1, by decide, by omega⟩ ?_ ?_
  · rintro i σ' H' hi ⟨G', q, t, rfl, w2, p2, q0, q1⟩
    refine (EvB.to (K := K) (eb_test (ed_gt (ed_vI rfl) ed_int)) (decide_eq_true (show 1 < p by omega))) G' H' (Wk.refl w2.b) _ fun G3 H3 w3 => ?_
    refine iteT ⟨_, rfl, _, rfl, _, _, rfl, rfl, G3, a, _, rfl, w3.b, p2.up w3, by omega, fun y G4 H4 y0 y1 w4 p4 => ⟨_, _, rfl, rfl, ?_⟩⟩
    have w24 := (w2.trans w3.wp).trans w4
    refine s_when K w4.b (eb_test (ed_eqI (ed_call (ea_cons (ed_vI rfl) (ea_cons (ed_vI rfl) ea_nil)) rfl ⟨_, _, rfl, small200 (by omega), small200 (by omega), rfl⟩) ed_int)) (fun e G5 H5 w5 => ?_) fun e G5 H5 w5 => ?_
    · exact fin _ _ G5 H5 (w24.trans w5.wp) (p4.up w5) (by omega) (by omega)
    · exact ⟨G5, 1 + y, _, rfl, w24.trans w5.wp, p4.up w5, by omega, by omega⟩
  · rintro σ' H' ⟨G', q, t, rfl, w2, p2, q0, q1⟩
    exact fin q t G' H' w2 p2 q0 q1
inductive Wd | row | regular | even | mirror | inverse | own | least
def Wd.s : Wd → Str
  | .row => "row"
  | .regular => "regular"
  | .even => "even"
  | .mirror => "mirror"
  | .inverse => "inverse"
  | .own => "own"
  | .least => "least"
def faultOf (wd : Wd) (p q : PyData) : Option Nat :=
  match wd with
  | .row => if (rowOk p).isSome then none else some 0
  | .regular => match okFrac p q with | none => some 1 | some pq => if pq.1 < 2 then some 3 else none
  | .even => match okSigned p q with | none => some 2 | some pe => if (evF pe.1 pe.2).length ≤ 200 then none else some 4
  | _ => if (okFrac p q).isSome then none else some 1
def faultD : Option Nat → PyData
  | none => .list [.str "none"]
  | some k => .list [.int k]
def rFault : List PyData → Except Addr PyData → Prop := fun ds r => ∃ (wd : Wd) (p q : PyData), ds = [.str wd.s, p, q] ∧ r = .ok (faultD (faultOf wd p q))
def clsOf (Z : Ad) : Nat → Addr
  | 0 => Z.C_BadRow
  | 1 => Z.C_BadFraction
  | 2 => Z.C_BadSignedFraction
  | 3 => Z.C_NoRegularRow
  | _ => Z.C_TooLongRow
def tSuite (K : Fg) (Z : Ad) (a : Addr) (cls : Value) (d : Option Addr) : TS :=
  tSeq (tAsg (tLst (tCons (tIsE K cls d a (tCons (tVar 3) (tCons (tC (.ref Z.C_BadRow)) tNil))) (tCons (tIsE K cls d a (tCons (tVar 3) (tCons (tC (.ref Z.C_BadFraction)) tNil)))
    (tCons (tIsE K cls d a (tCons (tVar 3) (tCons (tC (.ref Z.C_BadSignedFraction)) tNil))) (tCons (tIsE K cls d a (tCons (tVar 3) (tCons (tC (.ref Z.C_NoRegularRow)) tNil))) (tCons (tIsE K cls d a (tCons (tVar 3) (tCons (tC (.ref Z.C_TooLongRow)) tNil))) tNil)))))) (gName 4))
  (tRet (tLc (iRng1 (tCons (tC (.int 5)) tNil)) (gName 5) (fun σ H Q => tOp (rIx2 K) (tVar 4) (tVar 5) σ H fun x H' => ∃ k, TruV K x H' k ∧ Q k H') (tVar 5) [5]))
theorem suite_ok (T : Txt K mg Z) {kk : Nat} (hk : kk < 5) {v u x : V} {y z : Option V} {a : Addr} {G H : Hp} {D : Ends} (b : Same G H) (q : ∀ v G1 H1, Wk G H G1 H1 → Rp K G1 v (.list [.int kk]) → D.rt v H1) :
    tSuite K Z a (.ref (clsOf Z kk)) none D [some v, some u, some x, some (.ref a), y, z] H := by
  have five : ∀ (b0 b1 b2 b3 b4 : Bool), ExcC K (clsOf Z kk) → PySem.W.kitOne K (.ref (clsOf Z kk)) (.ref Z.C_BadRow) = some b0 → PySem.W.kitOne K (.ref (clsOf Z kk)) (.ref Z.C_BadFraction) = some b1 → PySem.W.kitOne K (.ref (clsOf Z kk)) (.ref Z.C_BadSignedFraction) = some b2 →
      PySem.W.kitOne K (.ref (clsOf Z kk)) (.ref Z.C_NoRegularRow) = some b3 → PySem.W.kitOne K (.ref (clsOf Z kk)) (.ref Z.C_TooLongRow) = some b4 →
      fm (fun d => match d with | .int i => (([b0, b1, b2, b3, b4] : List Bool)[i.toNat]?).getD false | _ => false) id (rg 0 5) = [.int kk] → tSuite K Z a (.ref (clsOf Z kk)) none D [some v, some u, some x, some (.ref a), y, z] H := by
    intro b0 b1 b2 b3 b4 hE h0 h1 h2 h3 h4 hf
    refine q_set K b (ed_lst (ea_cons (ed_isE rfl hE h0) (ea_cons (ed_isE rfl hE h1) (ea_cons (ed_isE rfl hE h2) (ea_cons (ed_isE rfl hE h3) (ea_cons (ed_isE rfl hE h4) ea_nil)))))) fun kv G1 H1 w1 hkv => ?_
    refine s_ret K w1.b (EvD.to (ed_lcR1 _ id (ea_cons ed_int ea_nil) (by decide) fun i i0 i1 G2 H2 w2 => turn_t rfl (eb_truB (ed_ix2L (ed_var rfl (dp_up w2.g hkv)) (ed_vI rfl) ?_)) fun _ => ed_vI rfl) (by show PyData.list (fm _ id (rg 0 5)) = _; rw [hf])) fun v G2 H2 w2 hv => q v G2 H2 (w1.trans w2) hv
    have : i = 0 ∨ i = 1 ∨ i = 2 ∨ i = 3 ∨ i = 4 := by omega
    rcases this with rfl | rfl | rfl | rfl | rfl <;> rfl
  match kk, hk with
  | 0, _ => exact five true false false false false T.c_BadRow.e T.k_BadRow_BadRow T.k_BadRow_BadFraction T.k_BadRow_BadSignedFraction T.k_BadRow_NoRegularRow T.k_BadRow_TooLongRow rfl
  | 1, _ => exact five false true false false false T.c_BadFraction.e T.k_BadFraction_BadRow T.k_BadFraction_BadFraction T.k_BadFraction_BadSignedFraction T.k_BadFraction_NoRegularRow T.k_BadFraction_TooLongRow rfl
  | 2, _ => exact five false false true false false T.c_BadSignedFraction.e T.k_BadSignedFraction_BadRow T.k_BadSignedFraction_BadFraction T.k_BadSignedFraction_BadSignedFraction T.k_BadSignedFraction_NoRegularRow T.k_BadSignedFraction_TooLongRow rfl
  | 3, _ => exact five false false false true false T.c_NoRegularRow.e T.k_NoRegularRow_BadRow T.k_NoRegularRow_BadFraction T.k_NoRegularRow_BadSignedFraction T.k_NoRegularRow_NoRegularRow T.k_NoRegularRow_TooLongRow rfl
  | 4, _ => exact five false false false false true T.c_TooLongRow.e T.k_TooLongRow_BadRow T.k_TooLongRow_BadFraction T.k_TooLongRow_BadSignedFraction T.k_TooLongRow_NoRegularRow T.k_TooLongRow_TooLongRow rfl
/-- what the clause makes of an error of the class number kk -/
theorem caught (T : Txt K mg Z) {kk : Nat} (hk : kk < 5) {v u x : V} {G H : Hp} {D : Ends} (b : Same G H) (q : ∀ v G1 H1, Wk G H G1 H1 → Rp K G1 v (.list [.int kk]) → D.rt v H1) :
    ∀ H1, Same H H1 → WE (wAs K (.ref Z.C_KnotError) 3 (tSuite K Z) (fun _ _ _ _ => False) D) [some v, some u, some x, none, none, none] (.ref (clsOf Z kk)) none H1 := by
  intro H1 e1
  have he : PySem.W.exmOne K (.ref (clsOf Z kk)) (.ref Z.C_KnotError) = some true := by
    match kk, hk with
    | 0, _ => exact exm_is T.c_KnotError T.e_BadRow_KnotError
    | 1, _ => exact exm_is T.c_KnotError T.e_BadFraction_KnotError
    | 2, _ => exact exm_is T.c_KnotError T.e_BadSignedFraction_KnotError
    | 3, _ => exact exm_is T.c_KnotError T.e_NoRegularRow_KnotError
    | 4, _ => exact exm_is T.c_KnotError T.e_TooLongRow_KnotError
  refine ⟨true, he, fun _ a ha => suite_ok (kk := kk) T hk (G := G) (b.trans e1) fun v G2 H2 w2 hv => q v G2 H2 ⟨w2.g, w2.b, e1.trans w2.h, fun p h1 h2 => w2.n p (fun z => ?_) h2⟩ hv, fun e => nomatch e⟩
  cases hp : H p with
  | none => exact h1 hp
  | some o => rw [e1 p o hp] at z; cases z
theorem ok__law_fault (T : Txt K mg Z) : FnOk P w K mg base (L2N.CX P w) 4 Z.f__law_fault Z.d__law_fault ["word", "p", "q"] (spR K 3 rFault) := by
  refine okN T.F__law_fault sc__law_fault spR_len (fun cdv A outer s H vs Q E hr h => ?_)
  refine ⟨_, (pss_cons (L2N.ps_try_as (i := 3) (Wout := fun _ _ _ _ => False) rfl rfl sc__law_fault.nd rfl rfl ⟨rfl, by decide, .inl T.m_KnotError⟩ takesN (fun W pn xe tk po => (pss_one (ps_if (pt_cmpR (show OpR _ (compareOp .Eq) (rEqD K) from (op_eqD hr.units)) (pv 0) pe_str (nomark _)) (pss_one (ps_expr (pe_callS (ok_fraction_of T) (hr.mono (by decide)) rfl T.m_fraction_of T.F_fraction_of.kp T.b_fraction_of (fun σ => L2N.passAt tk σ) (pa_cons (pv 1) pa_nil)))) (pss_one (ps_if (pt_cmpR (show OpR _ (compareOp .Eq) (rEqD K) from (op_eqD hr.units)) (pv 0) pe_str (nomark _)) (pss_one (ps_expr (pe_callS (ok_regular_row T) (hr.mono (by decide)) rfl T.m_regular_row T.F_regular_row.kp T.b_regular_row (fun σ => L2N.passAt tk σ) (pa_cons (pv 1) (pa_cons (pv 2) pa_nil))))) (pss_one (ps_if (pt_cmpR (show OpR _ (compareOp .Eq) (rEqD K) from (op_eqD hr.units)) (pv 0) pe_str (nomark _)) (pss_one (ps_expr (pe_callS (ok_even_row T) (hr.mono (by decide)) rfl T.m_even_row T.F_even_row.kp T.b_even_row (fun σ => L2N.passAt tk σ) (pa_cons (pv 1) (pa_cons (pv 2) pa_nil))))) (pss_one (ps_if (pt_cmpR (show OpR _ (compareOp .Eq) (rEqD K) from (op_eqD hr.units)) (pv 0) pe_str (nomark _)) (pss_one (ps_expr (pe_callS (ok_mirror_fraction T) (hr.mono (by decide)) rfl T.m_mirror_fraction T.F_mirror_fraction.kp T.b_mirror_fraction (fun σ => L2N.passAt tk σ) (pa_cons (pv 1) (pa_cons (pv 2) pa_nil))))) (pss_one (ps_if (pt_cmpR (show OpR _ (compareOp .Eq) (rEqD K) from (op_eqD hr.units)) (pv 0) pe_str (nomark _)) (pss_one (ps_expr (pe_callS (ok_inverse_fraction T) (hr.mono (by decide)) rfl T.m_inverse_fraction T.F_inverse_fraction.kp T.b_inverse_fraction (fun σ => L2N.passAt tk σ) (pa_cons (pv 1) (pa_cons (pv 2) pa_nil))))) (pss_one (ps_if (pt_cmpR (show OpR _ (compareOp .Eq) (rEqD K) from (op_eqD hr.units)) (pv 0) pe_str (nomark _)) (pss_one (ps_expr (pe_callS (ok_is_own_mirror T) (hr.mono (by decide)) rfl T.m_is_own_mirror T.F_is_own_mirror.kp T.b_is_own_mirror (fun σ => L2N.passAt tk σ) (pa_cons (pv 1) (pa_cons (pv 2) pa_nil))))) (pss_one (ps_expr (pe_callS (ok_least_crossings T) (hr.mono (by decide)) rfl T.m_least_crossings T.F_least_crossings.kp T.b_least_crossings (fun σ => L2N.passAt tk σ) (pa_cons (pv 1) (pa_cons (pv 2) pa_nil)))))))))))))))))) (fun a oe cls d pn hz hf => (pss_cons (ps_set (i := 4) sc__law_fault.nd rfl (by first | exact Or.inl rfl | exact Or.inr rfl) (pe_lst (pa_cons (pe_isE hz hf (by rfl) T.z_isinstance (by decide +kernel) (pa_cons (pv 3) (pa_cons (gl_ref T.m_BadRow) pa_nil))) (pa_cons (pe_isE hz hf (by rfl) T.z_isinstance (by decide +kernel) (pa_cons (pv 3) (pa_cons (gl_ref T.m_BadFraction) pa_nil))) (pa_cons (pe_isE hz hf (by rfl) T.z_isinstance (by decide +kernel) (pa_cons (pv 3) (pa_cons (gl_ref T.m_BadSignedFraction) pa_nil))) (pa_cons (pe_isE hz hf (by rfl) T.z_isinstance (by decide +kernel) (pa_cons (pv 3) (pa_cons (gl_ref T.m_NoRegularRow) pa_nil))) (pa_cons (pe_isE hz hf (by rfl) T.z_isinstance (by decide +kernel) (pa_cons (pv 3) (pa_cons (gl_ref T.m_TooLongRow) pa_nil))) pa_nil)))))))
    (pss_one (ps_ret (pe_lcH (own := [("k", 5)]) (hot_of hz hf) List.mem_cons_self sc__law_fault.nd (L2H.pi_range1H (by rfl) T.z_range (pa_cons pe_int pa_nil)) (blkOk_by (own := [("k", 5)]) (N := ["word", "p", "q", "wrong", "kinds", "k"]) (sc := defScope s__law_fault) (by decide +kernel)) (fun _ _ _ _ _ => (pg_name (i := 5) sc__law_fault.nd rfl (by first | exact Or.inl rfl | exact Or.inr rfl))) (fun _ _ _ _ _ => (pts_one (pt_truK (K := K) rfl (pe_ix (show IxR _ (rIx2 K) from ix_two) (pv 4) (pv 5) (fun _ _ => rfl)) (by intro _; rfl)))) (fun _ _ _ _ _ => (pv 5))))))))
    (pss_one (ps_ret (pe_lst (pa_cons pe_str pa_nil))))), ?_⟩
  obtain ⟨G, ds, r, b, ha, _, ⟨wd, p, q, rfl, rfl⟩, k⟩ := h
  obtain ⟨v, u, x, rfl, hv, hu, hx⟩ := rpa3 ha
  -- no error: the last row of the def
  have fin : ∀ G1 H1, Wk G H G1 H1 → faultOf wd p q = none → tRet (tLst (tCons (tC (.str "none")) tNil)) { nx := fun _ H' => Q .non H', rt := Q } (L2.start ["word", "p", "q", "wrong", "kinds", "k"] [v, u, x]) H1 := by
    intro G1 H1 w1 e
    refine s_ret K w1.b (ed_lst (ea_cons ed_str ea_nil)) fun v G2 H2 w2 hv => k v G2 H2 (w1.trans w2) ?_
    rw [e]; exact hv
  have err : ∀ kk G1 H1, kk < 5 → Wk G H G1 H1 → faultOf wd p q = some kk → ∀ H2, Same H1 H2 → WE (wAs K (.ref Z.C_KnotError) 3 (tSuite K Z) (fun _ _ _ _ => False) { nx := tRet (tLst (tCons (tC (.str "none")) tNil)) { nx := fun _ H' => Q .non H', rt := Q }, rt := Q }) [some v, some u, some x, none, none, none] (.ref (clsOf Z kk)) none H2 := by
    intro kk G1 H1 hk w1 e
    refine caught T hk w1.b fun v G2 H2 w2 hv => k v G2 H2 (w1.trans w2) ?_
    rw [e]; exact hv
  cases wd with
  | row =>
    have v1 := dp_up (Wk.refl b).g hv
    refine s_if K (c := true) (Wk.refl b).b (EvB.to (eb_test (ed_eq (ed_var rfl v1) ed_str (by decide +kernel) (by decide +kernel))) (by decide +kernel)) (fun _ G1 H1 w1 => ?_) fun e => nomatch e
    have ww := ((Wk.refl b).trans w1)
    have u1 := dp_up ww.g hu
    have x1 := dp_up ww.g hx
    cases e : rowOk p with
    | none => exact ex_callS ww.b (ea_cons (ed_var rfl u1) ea_nil) rfl ⟨p, rfl, by simp only [e]; rfl⟩ (err 0 _ _ (by decide) ww (by simp [faultOf, e]))
    | some ns => exact s_drop K (d := tupI (fracOf ns)) ww.b (ed_callS (ea_cons (ed_var rfl u1) ea_nil) rfl ⟨p, rfl, by simp only [e]⟩) fun G9 H9 w9 => fin G9 H9 (ww.trans w9) (by simp [faultOf, e])
  | regular =>
    have v1 := dp_up (Wk.refl b).g hv
    refine s_if K (c := false) (Wk.refl b).b (EvB.to (eb_test (ed_eq (ed_var rfl v1) ed_str (by decide +kernel) (by decide +kernel))) (by decide +kernel)) (fun e => nomatch e) fun _ G1 H1 w1 => ?_
    have v2 := dp_up ((Wk.refl b).trans w1).g hv
    refine s_if K (c := true) ((Wk.refl b).trans w1).b (EvB.to (eb_test (ed_eq (ed_var rfl v2) ed_str (by decide +kernel) (by decide +kernel))) (by decide +kernel)) (fun _ G2 H2 w2 => ?_) fun e => nomatch e
    have ww := (((Wk.refl b).trans w1).trans w2)
    have u1 := dp_up ww.g hu
    have x1 := dp_up ww.g hx
    cases e : okFrac p q with
    | none => exact ex_callS ww.b (ea_cons (ed_var rfl u1) (ea_cons (ed_var rfl x1) ea_nil)) rfl ⟨p, q, rfl, by simp only [e]; rfl⟩ (err 1 _ _ (by decide) ww (by simp [faultOf, e]))
    | some pq =>
      by_cases h2 : pq.1 < 2
      · exact ex_callS ww.b (ea_cons (ed_var rfl u1) (ea_cons (ed_var rfl x1) ea_nil)) rfl ⟨p, q, rfl, by simp only [e, if_pos h2]; rfl⟩ (err 3 _ _ (by decide) ww (by simp [faultOf, e, h2]))
      · exact s_drop K (d := .tuple (iL (regF pq.1 pq.2))) ww.b (ed_callS (ea_cons (ed_var rfl u1) (ea_cons (ed_var rfl x1) ea_nil)) rfl ⟨p, q, rfl, by simp only [e, if_neg h2]⟩) fun G9 H9 w9 => fin G9 H9 (ww.trans w9) (by simp [faultOf, e, h2])
  | even =>
    have v1 := dp_up (Wk.refl b).g hv
    refine s_if K (c := false) (Wk.refl b).b (EvB.to (eb_test (ed_eq (ed_var rfl v1) ed_str (by decide +kernel) (by decide +kernel))) (by decide +kernel)) (fun e => nomatch e) fun _ G1 H1 w1 => ?_
    have v2 := dp_up ((Wk.refl b).trans w1).g hv
    refine s_if K (c := false) ((Wk.refl b).trans w1).b (EvB.to (eb_test (ed_eq (ed_var rfl v2) ed_str (by decide +kernel) (by decide +kernel))) (by decide +kernel)) (fun e => nomatch e) fun _ G2 H2 w2 => ?_
    have v3 := dp_up (((Wk.refl b).trans w1).trans w2).g hv
    refine s_if K (c := true) (((Wk.refl b).trans w1).trans w2).b (EvB.to (eb_test (ed_eq (ed_var rfl v3) ed_str (by decide +kernel) (by decide +kernel))) (by decide +kernel)) (fun _ G3 H3 w3 => ?_) fun e => nomatch e
    have ww := ((((Wk.refl b).trans w1).trans w2).trans w3)
    have u1 := dp_up ww.g hu
    have x1 := dp_up ww.g hx
    cases e : okSigned p q with
    | none => exact ex_callS ww.b (ea_cons (ed_var rfl u1) (ea_cons (ed_var rfl x1) ea_nil)) rfl ⟨p, q, rfl, by simp only [e]; rfl⟩ (err 2 _ _ (by decide) ww (by simp [faultOf, e]))
    | some pq =>
      by_cases h2 : (evF pq.1 pq.2).length ≤ 200
      · exact s_drop K (d := .tuple (iL (evF pq.1 pq.2))) ww.b (ed_callS (ea_cons (ed_var rfl u1) (ea_cons (ed_var rfl x1) ea_nil)) rfl ⟨p, q, rfl, by simp only [e, if_pos h2]⟩) fun G9 H9 w9 => fin G9 H9 (ww.trans w9) (by simp [faultOf, e, h2])
      · exact ex_callS ww.b (ea_cons (ed_var rfl u1) (ea_cons (ed_var rfl x1) ea_nil)) rfl ⟨p, q, rfl, by simp only [e, if_neg h2]; rfl⟩ (err 4 _ _ (by decide) ww (by simp only [faultOf, e, if_neg h2]))
  | mirror =>
    have v1 := dp_up (Wk.refl b).g hv
    refine s_if K (c := false) (Wk.refl b).b (EvB.to (eb_test (ed_eq (ed_var rfl v1) ed_str (by decide +kernel) (by decide +kernel))) (by decide +kernel)) (fun e => nomatch e) fun _ G1 H1 w1 => ?_
    have v2 := dp_up ((Wk.refl b).trans w1).g hv
    refine s_if K (c := false) ((Wk.refl b).trans w1).b (EvB.to (eb_test (ed_eq (ed_var rfl v2) ed_str (by decide +kernel) (by decide +kernel))) (by decide +kernel)) (fun e => nomatch e) fun _ G2 H2 w2 => ?_
    have v3 := dp_up (((Wk.refl b).trans w1).trans w2).g hv
    refine s_if K (c := false) (((Wk.refl b).trans w1).trans w2).b (EvB.to (eb_test (ed_eq (ed_var rfl v3) ed_str (by decide +kernel) (by decide +kernel))) (by decide +kernel)) (fun e => nomatch e) fun _ G3 H3 w3 => ?_
    have v4 := dp_up ((((Wk.refl b).trans w1).trans w2).trans w3).g hv
    refine s_if K (c := true) ((((Wk.refl b).trans w1).trans w2).trans w3).b (EvB.to (eb_test (ed_eq (ed_var rfl v4) ed_str (by decide +kernel) (by decide +kernel))) (by decide +kernel)) (fun _ G4 H4 w4 => ?_) fun e => nomatch e
    have ww := (((((Wk.refl b).trans w1).trans w2).trans w3).trans w4)
    have u1 := dp_up ww.g hu
    have x1 := dp_up ww.g hx
    cases e : okFrac p q with
    | none => exact ex_callS ww.b (ea_cons (ed_var rfl u1) (ea_cons (ed_var rfl x1) ea_nil)) rfl ⟨p, q, rfl, by simp only [e]; rfl⟩ (err 1 _ _ (by decide) ww (by simp [faultOf, e]))
    | some pq => exact s_drop K (d := (if pq.1 ≠ 0 then tupI (pq.1, -pq.2 % pq.1) else tupI (0, 1))) ww.b (ed_callS (ea_cons (ed_var rfl u1) (ea_cons (ed_var rfl x1) ea_nil)) rfl ⟨p, q, rfl, by simp only [e]⟩) fun G9 H9 w9 => fin G9 H9 (ww.trans w9) (by simp [faultOf, e])
  | inverse =>
    have v1 := dp_up (Wk.refl b).g hv
    refine s_if K (c := false) (Wk.refl b).b (EvB.to (eb_test (ed_eq (ed_var rfl v1) ed_str (by decide +kernel) (by decide +kernel))) (by decide +kernel)) (fun e => nomatch e) fun _ G1 H1 w1 => ?_
    have v2 := dp_up ((Wk.refl b).trans w1).g hv
    refine s_if K (c := false) ((Wk.refl b).trans w1).b (EvB.to (eb_test (ed_eq (ed_var rfl v2) ed_str (by decide +kernel) (by decide +kernel))) (by decide +kernel)) (fun e => nomatch e) fun _ G2 H2 w2 => ?_
    have v3 := dp_up (((Wk.refl b).trans w1).trans w2).g hv
    refine s_if K (c := false) (((Wk.refl b).trans w1).trans w2).b (EvB.to (eb_test (ed_eq (ed_var rfl v3) ed_str (by decide +kernel) (by decide +kernel))) (by decide +kernel)) (fun e => nomatch e) fun _ G3 H3 w3 => ?_
    have v4 := dp_up ((((Wk.refl b).trans w1).trans w2).trans w3).g hv
    refine s_if K (c := false) ((((Wk.refl b).trans w1).trans w2).trans w3).b (EvB.to (eb_test (ed_eq (ed_var rfl v4) ed_str (by decide +kernel) (by decide +kernel))) (by decide +kernel)) (fun e => nomatch e) fun _ G4 H4 w4 => ?_
    have v5 := dp_up (((((Wk.refl b).trans w1).trans w2).trans w3).trans w4).g hv
    refine s_if K (c := true) (((((Wk.refl b).trans w1).trans w2).trans w3).trans w4).b (EvB.to (eb_test (ed_eq (ed_var rfl v5) ed_str (by decide +kernel) (by decide +kernel))) (by decide +kernel)) (fun _ G5 H5 w5 => ?_) fun e => nomatch e
    have ww := ((((((Wk.refl b).trans w1).trans w2).trans w3).trans w4).trans w5)
    have u1 := dp_up ww.g hu
    have x1 := dp_up ww.g hx
    cases e : okFrac p q with
    | none => exact ex_callS ww.b (ea_cons (ed_var rfl u1) (ea_cons (ed_var rfl x1) ea_nil)) rfl ⟨p, q, rfl, by simp only [e]; rfl⟩ (err 1 _ _ (by decide) ww (by simp [faultOf, e]))
    | some pq => exact s_drop K (d := (if 1 < pq.1 then tupI (pq.1, invF pq.1 pq.2) else tupI pq)) ww.b (ed_callS (ea_cons (ed_var rfl u1) (ea_cons (ed_var rfl x1) ea_nil)) rfl ⟨p, q, rfl, by simp only [e]⟩) fun G9 H9 w9 => fin G9 H9 (ww.trans w9) (by simp [faultOf, e])
  | own =>
    have v1 := dp_up (Wk.refl b).g hv
    refine s_if K (c := false) (Wk.refl b).b (EvB.to (eb_test (ed_eq (ed_var rfl v1) ed_str (by decide +kernel) (by decide +kernel))) (by decide +kernel)) (fun e => nomatch e) fun _ G1 H1 w1 => ?_
    have v2 := dp_up ((Wk.refl b).trans w1).g hv
    refine s_if K (c := false) ((Wk.refl b).trans w1).b (EvB.to (eb_test (ed_eq (ed_var rfl v2) ed_str (by decide +kernel) (by decide +kernel))) (by decide +kernel)) (fun e => nomatch e) fun _ G2 H2 w2 => ?_
    have v3 := dp_up (((Wk.refl b).trans w1).trans w2).g hv
    refine s_if K (c := false) (((Wk.refl b).trans w1).trans w2).b (EvB.to (eb_test (ed_eq (ed_var rfl v3) ed_str (by decide +kernel) (by decide +kernel))) (by decide +kernel)) (fun e => nomatch e) fun _ G3 H3 w3 => ?_
    have v4 := dp_up ((((Wk.refl b).trans w1).trans w2).trans w3).g hv
    refine s_if K (c := false) ((((Wk.refl b).trans w1).trans w2).trans w3).b (EvB.to (eb_test (ed_eq (ed_var rfl v4) ed_str (by decide +kernel) (by decide +kernel))) (by decide +kernel)) (fun e => nomatch e) fun _ G4 H4 w4 => ?_
    have v5 := dp_up (((((Wk.refl b).trans w1).trans w2).trans w3).trans w4).g hv
    refine s_if K (c := false) (((((Wk.refl b).trans w1).trans w2).trans w3).trans w4).b (EvB.to (eb_test (ed_eq (ed_var rfl v5) ed_str (by decide +kernel) (by decide +kernel))) (by decide +kernel)) (fun e => nomatch e) fun _ G5 H5 w5 => ?_
    have v6 := dp_up ((((((Wk.refl b).trans w1).trans w2).trans w3).trans w4).trans w5).g hv
    refine s_if K (c := true) ((((((Wk.refl b).trans w1).trans w2).trans w3).trans w4).trans w5).b (EvB.to (eb_test (ed_eq (ed_var rfl v6) ed_str (by decide +kernel) (by decide +kernel))) (by decide +kernel)) (fun _ G6 H6 w6 => ?_) fun e => nomatch e
    have ww := (((((((Wk.refl b).trans w1).trans w2).trans w3).trans w4).trans w5).trans w6)
    have u1 := dp_up ww.g hu
    have x1 := dp_up ww.g hx
    cases e : okFrac p q with
    | none => exact ex_callS ww.b (ea_cons (ed_var rfl u1) (ea_cons (ed_var rfl x1) ea_nil)) rfl ⟨p, q, rfl, by simp only [e]; rfl⟩ (err 1 _ _ (by decide) ww (by simp [faultOf, e]))
    | some pq => exact s_drop K (d := (.bool (decide (pq.1 < 3) || ((pq.2 * pq.2 + 1) % pq.1 == 0)))) ww.b (ed_callS (ea_cons (ed_var rfl u1) (ea_cons (ed_var rfl x1) ea_nil)) rfl ⟨p, q, rfl, by simp only [e]⟩) fun G9 H9 w9 => fin G9 H9 (ww.trans w9) (by simp [faultOf, e])
  | least =>
    have v1 := dp_up (Wk.refl b).g hv
    refine s_if K (c := false) (Wk.refl b).b (EvB.to (eb_test (ed_eq (ed_var rfl v1) ed_str (by decide +kernel) (by decide +kernel))) (by decide +kernel)) (fun e => nomatch e) fun _ G1 H1 w1 => ?_
    have v2 := dp_up ((Wk.refl b).trans w1).g hv
    refine s_if K (c := false) ((Wk.refl b).trans w1).b (EvB.to (eb_test (ed_eq (ed_var rfl v2) ed_str (by decide +kernel) (by decide +kernel))) (by decide +kernel)) (fun e => nomatch e) fun _ G2 H2 w2 => ?_
    have v3 := dp_up (((Wk.refl b).trans w1).trans w2).g hv
    refine s_if K (c := false) (((Wk.refl b).trans w1).trans w2).b (EvB.to (eb_test (ed_eq (ed_var rfl v3) ed_str (by decide +kernel) (by decide +kernel))) (by decide +kernel)) (fun e => nomatch e) fun _ G3 H3 w3 => ?_
    have v4 := dp_up ((((Wk.refl b).trans w1).trans w2).trans w3).g hv
    refine s_if K (c := false) ((((Wk.refl b).trans w1).trans w2).trans w3).b (EvB.to (eb_test (ed_eq (ed_var rfl v4) ed_str (by decide +kernel) (by decide +kernel))) (by decide +kernel)) (fun e => nomatch e) fun _ G4 H4 w4 => ?_
    have v5 := dp_up (((((Wk.refl b).trans w1).trans w2).trans w3).trans w4).g hv
    refine s_if K (c := false) (((((Wk.refl b).trans w1).trans w2).trans w3).trans w4).b (EvB.to (eb_test (ed_eq (ed_var rfl v5) ed_str (by decide +kernel) (by decide +kernel))) (by decide +kernel)) (fun e => nomatch e) fun _ G5 H5 w5 => ?_
    have v6 := dp_up ((((((Wk.refl b).trans w1).trans w2).trans w3).trans w4).trans w5).g hv
    refine s_if K (c := false) ((((((Wk.refl b).trans w1).trans w2).trans w3).trans w4).trans w5).b (EvB.to (eb_test (ed_eq (ed_var rfl v6) ed_str (by decide +kernel) (by decide +kernel))) (by decide +kernel)) (fun e => nomatch e) fun _ G6 H6 w6 => ?_
    have ww := (((((((Wk.refl b).trans w1).trans w2).trans w3).trans w4).trans w5).trans w6)
    have u1 := dp_up ww.g hu
    have x1 := dp_up ww.g hx
    cases e : okFrac p q with
    | none => exact ex_callS ww.b (ea_cons (ed_var rfl u1) (ea_cons (ed_var rfl x1) ea_nil)) rfl ⟨p, q, rfl, by simp only [e]; rfl⟩ (err 1 _ _ (by decide) ww (by simp [faultOf, e]))
    | some pq => exact s_drop K (d := (.int (if 1 < pq.1 then (regF pq.1 pq.2).sum else 0))) ww.b (ed_callS (ea_cons (ed_var rfl u1) (ea_cons (ed_var rfl x1) ea_nil)) rfl ⟨p, q, rfl, by simp only [e]⟩) fun G9 H9 w9 => fin G9 H9 (ww.trans w9) (by simp [faultOf, e])
end
end K63
namespace K63
open PySem PySem.Spec PyProof.Rows L2 L3 TF
section
variable {P : Program} {w : World} {K : Fg} {mg : Str → Option Value} {base : Heap} {Z : Ad}
def rPairSo : List PyData → Except Addr PyData → Prop := fun ds r => ∃ p q : Int, ds = [.int p, .int q] ∧ 2 ≤ p ∧ p ≤ 1000000000 ∧ 1 ≤ q ∧ q < p ∧ Nat.gcd p.natAbs q.natAbs = 1 ∧ r = .ok (.bool true)
theorem ok_of {p q : Int} (h2 : 2 ≤ p) (h3 : p ≤ 1000000000) (h0 : 1 ≤ q) (h1 : q < p) (hg : Nat.gcd p.natAbs q.natAbs = 1) : okFrac (.int p) (.int q) = some (p, q) := by
  rw [okFrac_int, if_pos]; exact ⟨by omega, h3, by omega, fun _ => ⟨by omega, h1, hg⟩⟩
theorem wid_iT {ns : List Int} {m : Nat} (h : ns.length ≤ m) : wid (.tuple (iL ns)) ≤ m := by
  simp only [wid, widA_iL, len_iL]; omega
theorem ok__law_pair_so (T : Txt K mg Z) : FnOk P w K mg base (L2N.CX P w) 10 Z.f__law_pair_so Z.d__law_pair_so ["p", "q"] (spR K 2 rPairSo) := by
  refine okN T.F__law_pair_so sc__law_pair_so spR_len (fun cdv A outer s H vs Q E hr h => ?_)
  refine ⟨_, (pss_cons (ps_set (i := 2) sc__law_pair_so.nd rfl (by first | exact Or.inl rfl | exact Or.inr rfl) (pe_call (ok__law_regular T) (hr.mono (by first | decide | omega)) rfl T.m__law_regular T.F__law_regular.kp T.b__law_regular .nil passN (pa_cons (pv 0) (pa_cons (pv 1) pa_nil))))
    (pss_cons (ps_if (PW.pt (pw_or (pt_not (pt_val (pe_call (ok__law_same T) (hr.mono (by first | decide | omega)) rfl T.m__law_same T.F__law_same.kp T.b__law_same .nil passN (pa_cons (pe_call (ok_regular_row T) (hr.mono (by first | decide | omega)) rfl T.m_regular_row T.F_regular_row.kp T.b_regular_row .nil (L2N.passes_call (L2N.takes_of rfl rfl rfl rfl) (fun _ _ _ _ h => h)) (pa_cons (pv 0) (pa_cons (pv 1) pa_nil))) (pa_cons (pv 2) pa_nil))))) (pw_or (pt_cmpR (op_neD hr.units) (pe_call (ok__law_fraction T) (hr.mono (by first | decide | omega)) rfl T.m__law_fraction T.F__law_fraction.kp T.b__law_fraction .nil passN (pa_cons (pv 2) pa_nil)) (pe_tup (pa_cons (pv 0) (pa_cons (pv 1) pa_nil))) (nomark _)) (pw_or1 (pt_cmpR op_lt (pe_ix ix_two (pv 2) (pe_un un_neg pe_int) (fun _ _ => rfl)) pe_int (nomark _)))))) (pss_one (ps_ret pe_bl)) pss_nil)
    (pss_cons (ps_set (i := 3) sc__law_pair_so.nd rfl (by first | exact Or.inl rfl | exact Or.inr rfl) (pe_call (ok_inverse_fraction T) (hr.mono (by first | decide | omega)) rfl T.m_inverse_fraction T.F_inverse_fraction.kp T.b_inverse_fraction .nil (L2N.passes_call (L2N.takes_of rfl rfl rfl rfl) (fun _ _ _ _ h => h)) (pa_cons (pv 0) (pa_cons (pv 1) pa_nil))))
    (pss_cons (ps_if (PW.pt (pw_or (pt_not (pt_val (pe_callB call_isi (by rfl) T.z_isinstance (by decide +kernel) (pa_cons (pv 3) (pa_cons (pe_bltn (v := .ty "tuple") (by rfl) T.z_tuple (by decide +kernel) rfl) pa_nil))))) (pw_or (pt_cmpR (op_neD hr.units) (pe_callB call_len_seq (by rfl) T.z_len (by decide +kernel) (pa_cons (pv 3) pa_nil)) pe_int (nomark _)) (pw_or (pt_not (pt_val (pe_call (ok__law_same T) (hr.mono (by first | decide | omega)) rfl T.m__law_same T.F__law_same.kp T.b__law_same .nil passN (pa_cons (pe_ix ix_two (pv 3) pe_int (fun _ _ => rfl)) (pa_cons (pv 0) pa_nil))))) (pw_or (pt_not (pt_val (pe_call (ok__law_is_integer T) (hr.mono (by first | decide | omega)) rfl T.m__law_is_integer T.F__law_is_integer.kp T.b__law_is_integer .nil passN (pa_cons (pe_ix ix_two (pv 3) pe_int (fun _ _ => rfl)) pa_nil)))) (pw_or (pt_not (pt_chain op_lt op_lt pe_int (pe_ix ix_two (pv 3) pe_int (fun _ _ => rfl)) (pv 0))) (pw_or1 (pt_cmpR (op_neD hr.units) (pe_op op_mod (pe_callTy call_int1 (by rfl) T.z_int (by decide +kernel) (pa_cons (pe_op op_mul (pv 1) (pe_ix ix_two (pv 3) pe_int (fun _ _ => rfl))) pa_nil)) (pv 0)) pe_int (nomark _))))))))) (pss_one (ps_ret pe_bl)) pss_nil)
    (pss_one (ps_ret (pe_call (ok__law_same T) (hr.mono (by first | decide | omega)) rfl T.m__law_same T.F__law_same.kp T.b__law_same .nil passN (pa_cons (pe_tup (pa_cons (pe_call (ok_mirror_fraction T) (hr.mono (by first | decide | omega)) rfl T.m_mirror_fraction T.F_mirror_fraction.kp T.b_mirror_fraction .nil (L2N.passes_call (L2N.takes_of rfl rfl rfl rfl) (fun _ _ _ _ h => h)) (pa_cons (pv 0) (pa_cons (pv 1) pa_nil))) (pa_cons (pe_call (ok_is_own_mirror T) (hr.mono (by first | decide | omega)) rfl T.m_is_own_mirror T.F_is_own_mirror.kp T.b_is_own_mirror .nil (L2N.passes_call (L2N.takes_of rfl rfl rfl rfl) (fun _ _ _ _ h => h)) (pa_cons (pv 0) (pa_cons (pv 1) pa_nil))) (pa_cons (pe_call (ok_least_crossings T) (hr.mono (by first | decide | omega)) rfl T.m_least_crossings T.F_least_crossings.kp T.b_least_crossings .nil (L2N.passes_call (L2N.takes_of rfl rfl rfl rfl) (fun _ _ _ _ h => h)) (pa_cons (pv 0) (pa_cons (pv 1) pa_nil))) pa_nil)))) (pa_cons (pe_tup (pa_cons (pe_tup (pa_cons (pv 0) (pa_cons (pe_op op_sub (pv 0) (pv 1)) pa_nil))) (pa_cons (pe_or (pe_cmpR (op_eqD hr.units) (pv 0) pe_int (nomark _)) (pe_one (pe_cmpR (op_eqD hr.units) (pe_op op_mod (pe_callTy call_int1 (by rfl) T.z_int (by decide +kernel) (pa_cons (pe_op op_add (pe_op op_mul (pv 1) (pv 1)) pe_int) pa_nil)) (pv 0)) pe_int (nomark _)))) (pa_cons (pe_callB (cr_sumT rfl) (by rfl) T.z_sum (by decide +kernel) (pa_cons (pv 2) pa_nil)) pa_nil)))) pa_nil))))))))), ?_⟩
  obtain ⟨G, ds, r, b, ha, _, ⟨p, q, rfl, h2, h3, h0, h1, hg, rfl⟩, k⟩ := h
  obtain ⟨v, u, rfl, hv, hu⟩ := rpa2 ha
  cases hv; cases hu
  have hok := ok_of h2 h3 h0 h1 hg
  have hlen := regF_len (p := p) (q := q) (by omega) (by omega)
  have hb := regF_bound (q.toNat + 1) p q 1000000000 (by omega) (by omega) h3 (by omega) (by omega) (by omega)
  obtain ⟨l, z, hl, hz⟩ := regF_last (q.toNat + 1) p q (by omega) h0 h1 (by omega) hg
  have hat : atI (iL (regF p q)) (-1) = some (.int z) := by
    rw [hl]; unfold iL; rw [List.map_append]
    exact atI_last _ _
  obtain ⟨i0, i1, i2⟩ := invF_spec h2 (by omega) hg
  have p2 : PyData.int p = .int p := rfl
  refine q_set K b (ed_call (ea_cons (ed_vI rfl) (ea_cons (ed_vI rfl) ea_nil)) rfl ⟨p, q, rfl, by omega, by omega, rfl⟩) fun x G1 H1 w1 hx => ?_
  refine q_when K (c := false) w1.b (EvB.to (eb_or (eb_not (eb_val (ed_call (ea_cons (ed_call (ea_cons (ed_vI rfl) (ea_cons (ed_vI rfl) ea_nil)) rfl ⟨_, _, rfl, by simp only [hok]; rw [if_neg (by omega)]⟩) (ea_cons (ed_var rfl hx) ea_nil)) rfl ⟨_, rfl, ?_, ?_, ?_, rfl⟩)))
    fun _ => eb_or (eb_test (ed_ne (ed_call (ea_cons (ed_var rfl hx) ea_nil) rfl ⟨_, _, rfl, .inr rfl, fun n hn => ?_, rfl⟩) (ed_tup (ea_cons (ed_vI rfl) (ea_cons (ed_vI rfl) ea_nil))) rfl rfl)) fun _ => eb_test (ed_lt (ed_ix2T (ed_var rfl hx) (ed_neg ed_int) hat) ed_int)) ?_) (fun e => nomatch e) fun _ G2 H2 w2 => ?_
  · exact lay_iL _
  · simp only [dep, depA_iL]; omega
  · exact wid_iT (by omega)
  · have := hb n hn
    have e64 : (2 : Nat) ^ 64 = 18446744073709551616 := by decide
    omega
  · rw [regF_frac (by omega) h1 h3 hg]
    rw [show PyData.tuple [.int p, .int q] = tupI (p, q) from rfl, eqv_refl (d := tupI (p, q)) rfl, show decide (z < 2) = false from decide_eq_false (by omega)]; rfl
  refine q_set K w2.b (d := tupI (p, invF p q)) (ed_call (ea_cons (ed_vI rfl) (ea_cons (ed_vI rfl) ea_nil)) rfl ⟨_, _, rfl, by simp only [hok]; rw [if_pos (by omega)]⟩) fun y G3 H3 w3 hy => ?_
  have a0 : atI [PyData.int p, .int (invF p q)] 0 = some (.int p) := rfl
  have a1 : atI [PyData.int p, .int (invF p q)] 1 = some (.int (invF p q)) := rfl
  refine q_when K (c := false) w3.b (EvB.to (eb_or (eb_not (eb_val (ed_isi (ed_var rfl hy) (kb_tuple _))))
    fun _ => eb_or (eb_test (ed_neI (ed_lenT (ed_var rfl hy)) ed_int))
    fun _ => eb_or (eb_not (eb_val (ed_call (ea_cons (ed_ix2T (ed_var rfl hy) ed_int a0) (ea_cons (ed_vI rfl) ea_nil)) rfl ⟨_, rfl, rfl, Nat.le_of_ble_eq_true rfl, Nat.le_of_ble_eq_true rfl, rfl⟩)))
    fun _ => eb_or (eb_not (eb_val (ed_call (ea_cons (ed_ix2T (ed_var rfl hy) ed_int a1) ea_nil) rfl ⟨_, rfl, rfl⟩)))
    fun _ => eb_or (eb_not (eb_test (ed_chain ed_int (ed_ix2T (ed_var rfl hy) ed_int a1) fun _ => ed_vI rfl)))
    fun _ => eb_test (ed_neI (ed_modP (ed_toint (ed_mul (ed_vI rfl) (ed_ix2T (ed_var rfl hy) ed_int a1) (.inl ⟨by omega, by omega⟩))) (ed_vI rfl) (by omega)) ed_int)) ?_) (fun e => nomatch e) fun _ G4 H4 w4 => ?_
  · rw [i2, decide_eq_true i0, decide_eq_true i1]; rfl
  have em : (if p ≠ 0 then tupI (p, -q % p) else tupI (0, 1)) = tupI (p, p - q) := by
    rw [if_pos (by omega), show -q % p = p - q by
      rw [← Int.add_emod_right (-q) p, Int.emod_eq_of_lt (by omega) (by omega)]; omega]
  have eo : (decide (p < 3) || ((q * q + 1) % p == 0)) = ((p == 2) || ((q * q + 1) % p == 0)) := by
    congr 1
    by_cases h : p = 2
    · subst h; rfl
    · rw [decide_eq_false (by omega), beq_eq_false_iff_ne.mpr h]
  have es : (if 1 < p then (regF p q).sum else 0) = (regF p q).sum := if_pos (by omega)
  refine s_ret K w4.b (ed_call (d := .bool true) (ea_cons (ed_tup (ea_cons (ed_call (d := tupI (p, p - q)) (ea_cons (ed_vI rfl) (ea_cons (ed_vI rfl) ea_nil)) rfl ⟨_, _, rfl, by simp only [hok]; rw [em]⟩)
      (ea_cons (ed_call (d := .bool ((p == 2) || ((q * q + 1) % p == 0))) (ea_cons (ed_vI rfl) (ea_cons (ed_vI rfl) ea_nil)) rfl ⟨_, _, rfl, by simp only [hok]; rw [eo]⟩)
      (ea_cons (ed_call (d := .int (regF p q).sum) (ea_cons (ed_vI rfl) (ea_cons (ed_vI rfl) ea_nil)) rfl ⟨_, _, rfl, by simp only [hok]; rw [es]⟩) ea_nil))))
      (ea_cons (ed_tup (ea_cons (ed_tup (ea_cons (ed_vI rfl) (ea_cons (ed_sub (ed_vI rfl) (ed_vI rfl)) ea_nil)))
      (ea_cons (ed_orV (ed_eqI (ed_vI rfl) ed_int) fun _ => ed_eqI (ed_modP (ed_toint (ed_add (ed_mul (ed_vI rfl) (ed_vI rfl) (.inl ⟨by omega, by omega⟩)) ed_int)) (ed_vI rfl) (by omega)) ed_int)
      (ea_cons (ed_sumT (ed_var rfl (dp_up ((w2.trans w3).trans w4).g hx))) ea_nil)))) ea_nil)) rfl ⟨_, rfl, rfl, Nat.le_of_ble_eq_true rfl, Nat.le_of_ble_eq_true rfl, rfl⟩) fun v G5 H5 w5 hv => k v G5 H5 ((((w1.trans w2).trans w3).trans w4).trans w5) hv
def rEvenSo : List PyData → Except Addr PyData → Prop := fun ds r => ∃ p e : Int, ds = [.int p, .int e] ∧ 1 ≤ p ∧ p ≤ 1000000000 ∧ ab e < p ∧ (p + e) % 2 = 1 ∧ Nat.gcd p.natAbs e.natAbs = 1 ∧ r = .ok (.bool true)
theorem ok__law_even_so (T : Txt K mg Z) : FnOk P w K mg base (L2N.CX P w) 10 Z.f__law_even_so Z.d__law_even_so ["p", "e"] (spR K 2 rEvenSo) := by
  refine okN T.F__law_even_so sc__law_even_so spR_len (fun cdv A outer s H vs Q E hr h => ?_)
  refine ⟨_, (pss_cons (ps_set (i := 2) sc__law_even_so.nd rfl (by first | exact Or.inl rfl | exact Or.inr rfl) (pe_call (ok__law_even T) (hr.mono (by first | decide | omega)) rfl T.m__law_even T.F__law_even.kp T.b__law_even .nil passN (pa_cons (pv 0) (pa_cons (pv 1) pa_nil))))
    (pss_cons (ps_if (pt_cmpR op_gt (pe_callB call_len_seq (by rfl) T.z_len (by decide +kernel) (pa_cons (pv 2) pa_nil)) pe_int (nomark _)) (pss_one (ps_ret (pe_call (ok__law_same T) (hr.mono (by first | decide | omega)) rfl T.m__law_same T.F__law_same.kp T.b__law_same .nil passN (pa_cons (pe_call (ok__law_fault T) (hr.mono (by first | decide | omega)) rfl T.m__law_fault T.F__law_fault.kp T.b__law_fault .nil passN (pa_cons pe_str (pa_cons (pv 0) (pa_cons (pv 1) pa_nil)))) (pa_cons (pe_lst (pa_cons pe_int pa_nil)) pa_nil))))) pss_nil)
    (pss_cons (ps_set (i := 3) sc__law_even_so.nd rfl (by first | exact Or.inl rfl | exact Or.inr rfl) (pe_call (ok_even_row T) (hr.mono (by first | decide | omega)) rfl T.m_even_row T.F_even_row.kp T.b_even_row .nil (L2N.passes_call (L2N.takes_of rfl rfl rfl rfl) (fun _ _ _ _ h => h)) (pa_cons (pv 0) (pa_cons (pv 1) pa_nil))))
    (pss_cons (ps_if (PW.pt (pw_or (pt_not (pt_val (pe_call (ok__law_same T) (hr.mono (by first | decide | omega)) rfl T.m__law_same T.F__law_same.kp T.b__law_same .nil passN (pa_cons (pv 3) (pa_cons (pv 2) pa_nil))))) (pw_or (pt_val (pe_callB (cr_any rfl) (by rfl) T.z_any (by decide +kernel) (pa_cons (pe_lc (own := [("part", 4)]) rfl sc__law_even_so.nd (pi_tup (pv 2)) (blkOk_by (own := [("part", 4)]) (N := ["p", "e", "due", "told", "part"]) (sc := defScope s__law_even_so) (by decide +kernel)) (fun _ _ _ _ _ => (pg_name (i := 4) sc__law_even_so.nd rfl (by first | exact Or.inl rfl | exact Or.inr rfl))) (fun _ _ _ _ _ => pts_nil) (fun _ _ _ _ _ => (pe_or (pe_cmpR (show OpR _ (compareOp .Eq) (rEqD K) from (op_eqD hr.units)) (pv 4) pe_int (nomark _)) (pe_one (pe_cmpR (show OpR _ (compareOp .Eq) (rEqD K) from (op_eqD hr.units)) (pe_op op_mod (pv 4) pe_int) pe_int (nomark _)))))) pa_nil))) (pw_or1 (pt_cmpR (op_neD hr.units) (pe_op op_mod (pe_callB call_len_seq (by rfl) T.z_len (by decide +kernel) (pa_cons (pv 2) pa_nil)) pe_int) (pe_op op_mod (pe_op op_add (pv 0) pe_int) pe_int) (nomark _)))))) (pss_one (ps_ret pe_bl)) pss_nil)
    (pss_one (ps_ret (pe_ifExp (pt_truth (pv 2) (by intro _; rfl)) (pe_cmpR (op_eqD hr.units) (pe_call (ok__law_fraction T) (hr.mono (by first | decide | omega)) rfl T.m__law_fraction T.F__law_fraction.kp T.b__law_fraction .nil passN (pa_cons (pv 2) pa_nil)) (pe_tup (pa_cons (pv 0) (pa_cons (pe_op op_mod (pe_callTy call_int1 (by rfl) T.z_int (by decide +kernel) (pa_cons (pv 1) pa_nil)) (pv 0)) pa_nil))) (nomark _)) (pe_cmpR (op_eqD hr.units) (pv 0) pe_int (nomark _))))))))), ?_⟩
  obtain ⟨G, ds, r, b, ha, _, ⟨p, e, rfl, h2, h3, h0, ho, hg, rfl⟩, k⟩ := h
  obtain ⟨v, u, rfl, hv, hu⟩ := rpa2 ha
  cases hv; cases hu
  have hab : e.natAbs < p.natAbs := by unfold ab at h0; split at h0 <;> omega
  have hok : okSigned (.int p) (.int e) = some (p, e) := by rw [okSigned_int, if_pos]; exact ⟨h2, h3, h0, hg, by omega⟩
  have hlen := evn_len 300 p e
  refine q_set K b (d := .tuple (iL (evn 300 p e))) (ed_call (ea_cons (ed_vI rfl) (ea_cons (ed_vI rfl) ea_nil)) rfl ⟨p, e, rfl, by omega, by omega, ho, rfl⟩) fun x G1 H1 w1 hx => ?_
  refine q_when K (c := decide (200 < (evn 300 p e).length)) w1.b (EvB.to (eb_test (ed_gt (ed_lenT (ed_var rfl hx)) ed_int)) (by rw [len_iL]; simp only [decide_eq_decide]; omega)) (fun c G2 H2 w2 => ?_) fun c G2 H2 w2 => ?_
  · have hl := evn_long ho (of_decide_eq_true c)
    have hf : faultOf .even (.int p) (.int e) = some 4 := by
      show (match okSigned (.int p) (.int e) with | none => some 2 | some pe => if (evF pe.1 pe.2).length ≤ 200 then none else some 4) = some 4
      simp only [hok]; rw [if_neg (by omega)]
    refine s_ret K w2.b (ed_call (d := .bool true) (ea_cons (ed_call (d := .list [.int 4]) (ea_cons ed_str (ea_cons (ed_vI rfl) (ea_cons (ed_vI rfl) ea_nil))) rfl ⟨.even, _, _, rfl, by rw [hf]; rfl⟩) (ea_cons (ed_lst (ea_cons ed_int ea_nil)) ea_nil)) rfl ⟨_, rfl, rfl, Nat.le_of_ble_eq_true rfl, Nat.le_of_ble_eq_true rfl, rfl⟩) fun v G5 H5 w5 hv => k v G5 H5 ((w1.trans w2).trans w5) hv
  · have hw := evn_whole ho (Nat.le_of_not_lt (of_decide_eq_false c)) (by decide : 200 < 300)
    have hl : (evF p e).length ≤ 200 := by rw [← hw]; exact Nat.le_of_not_lt (of_decide_eq_false c)
    rw [hw] at hx
    refine q_set K w2.b (d := .tuple (iL (evF p e))) (ed_call (ea_cons (ed_vI rfl) (ea_cons (ed_vI rfl) ea_nil)) rfl ⟨_, _, rfl, by simp only [hok]; rw [if_pos hl]⟩) fun y G3 H3 w3 hy => ?_
    have hx3 := dp_up (w2.trans w3).g hx
    have parts := evF_parts (e.natAbs + 1) p e (by omega) ho hab
    have par := evF_parity (e.natAbs + 1) p e (by omega) ho
    refine q_when K (c := false) w3.b (EvB.to (eb_or (eb_not (eb_val (ed_call (ea_cons (ed_var rfl hy) (ea_cons (ed_var rfl hx3) ea_nil)) rfl ⟨_, rfl, lay_iL _, ?_, wid_iT (by omega), rfl⟩)))
      fun _ => eb_or (eb_val (ed_any (bs := (evF p e).map fun _ => false) ?_)) fun _ => eb_test (ed_neI (ed_modP (ed_lenT (ed_var rfl hx3)) ed_int (by decide)) (ed_modP (ed_add (ed_vI rfl) ed_int) ed_int (by decide)))) ?_) (fun e => nomatch e) fun _ G4 H4 w4 => ?_
    · simp only [dep, depA_iL]; omega
    · refine EvD.to (ed_mapT (fun _ => .bool false) (ed_var rfl hx3) (by rw [len_iL]; omega) (fun _ => rfl) fun d hd v G4 H4 w4 hv => ?_) ?_
      · obtain ⟨n, hn, rfl⟩ := List.mem_map.mp hd
        cases hv
        obtain ⟨a1, a2, _⟩ := parts n hn
        exact EvD.to (ed_orV (ed_eqI (ed_vI rfl) ed_int) fun _ => ed_eqI (ed_modP (ed_vI rfl) ed_int (by decide)) ed_int) (by rw [beq_eq_false_iff_ne.mpr a1, a2]; rfl)
      · unfold iL bL; rw [List.map_map, List.map_map]; rfl
    · rw [len_iL, par, show (((evF p e).map fun _ => false).any id) = false by simp]; simp
    · have hx4 := dp_up w4.g hx3
      have fin : evF p e ≠ [] → p ≠ 0 := fun _ => by omega
      refine s_ret K (d := .bool true) w4.b (EvD.to (ed_if (eb_truT (ed_var rfl hx4)) (fun c => ed_eq (ed_call (d := tupI (p, e % p)) (ea_cons (ed_var rfl hx4) ea_nil) rfl ⟨_, _, rfl, .inr rfl, fun n hn => ?_, by rw [evF_frac h2 ho hg]⟩) (ed_tup (ea_cons (ed_vI rfl) (ea_cons (ed_modP (ed_toint (ed_vI rfl)) (ed_vI rfl) (by omega)) ea_nil))) rfl rfl) fun c => ed_eqI (ed_vI rfl) ed_int) ?_) fun v G5 H5 w5 hv => k v G5 H5 ((((w1.trans w2).trans w3).trans w4).trans w5) hv
      · have := (parts n hn).2.2
        have e64 : (2 : Nat) ^ 64 = 18446744073709551616 := by decide
        omega
      · rw [show PyData.tuple [.int p, .int (e % p)] = tupI (p, e % p) from rfl, eqv_refl (d := tupI (p, e % p)) rfl]
        cases hn : evF p e with
        | nil =>
          have := evF_nil ho hn
          subst this
          have := gcd_one_zero hg
          rw [show p = 1 by omega]; rfl
        | cons a l => rfl
end
end K63
namespace K63
open PySem PySem.Spec PyProof.Rows L2 L3 TF
section
variable {P : Program} {w : World} {K : Fg} {mg : Str → Option Value} {base : Heap} {Z : Ad}
theorem g_reg {C1 C2 : Addr} {p q : Int} {ns : List Int} (h : okFrac (.int p) (.int q) = some (p, q)) (h2 : ¬ p < 2) (e : regF p q = ns) : rRegRow C1 C2 [.int p, .int q] (.ok (.tuple (iL ns))) :=
  ⟨_, _, rfl, by simp only [h]; rw [if_neg h2, e]⟩
theorem g_even {C1 C2 : Addr} {p q : Int} {ns : List Int} (h : okSigned (.int p) (.int q) = some (p, q)) (h2 : (evF p q).length ≤ 200) (e : evF p q = ns) : rEven C1 C2 [.int p, .int q] (.ok (.tuple (iL ns))) :=
  ⟨_, _, rfl, by simp only [h]; rw [if_pos h2, e]⟩
theorem g_fault (wd : Wd) {p q : PyData} {o : Option Nat} (h : faultOf wd p q = o) : rFault [.str wd.s, p, q] (.ok (faultD o)) := ⟨wd, p, q, rfl, by rw [h]⟩
/-- the fraction of a row that is let -/
def fracD (d : PyData) : PyData := match rowOk d with | some ns => tupI (fracOf ns) | none => .none
def fourD : PyData → PyData
  | .tuple [.int p, .int q] => .tuple [if p ≠ 0 then tupI (p, -q % p) else tupI (0, 1), if 1 < p then tupI (p, invF p q) else tupI (p, q), .bool (decide (p < 3) || ((q * q + 1) % p == 0)), .int (if 1 < p then (regF p q).sum else 0)]
  | _ => .none
def rAlways : List PyData → Except Addr PyData → Prop := fun ds r => ds = [] ∧ r = .ok (.bool true)
def rows0 : List PyData := [(.tuple [(.int 3)]), (.tuple [(.int 2), (.int 2)]), (.tuple [(.int 3), (.int 2)]), (.tuple [(.int 2), (.int (-2))]), (.tuple [(.int 0)]), (.tuple [(.int 0), (.int 0)]), (.tuple [(.int 1)]), (.tuple [(.int (-3))]), (.tuple [(.int 2), (.int 0), (.int 1)]), (.tuple [(.int 1), (.int (-1))]), (.list [(.int 0), (.int 5), (.int 2)])]
def dues0 : List PyData := [(.tuple [(.int 3), (.int 1)]), (.tuple [(.int 5), (.int 2)]), (.tuple [(.int 7), (.int 2)]), (.tuple [(.int 3), (.int 2)]), (.tuple [(.int 0), (.int 1)]), (.tuple [(.int 1), (.int 0)]), (.tuple [(.int 1), (.int 0)]), (.tuple [(.int 3), (.int 2)]), (.tuple [(.int 3), (.int 1)]), (.tuple [(.int 0), (.int 1)]), (.tuple [(.int 2), (.int 1)])]
def pairs0 : List PyData := [(.tuple [(.int 0), (.int 1)]), (.tuple [(.int 1), (.int 0)]), (.tuple [(.int 2), (.int 1)]), (.tuple [(.int 3), (.int 1)]), (.tuple [(.int 5), (.int 2)]), (.tuple [(.int 7), (.int 2)])]
def dues4 : List PyData := [(.tuple [(.tuple [(.int 0), (.int 1)]), (.tuple [(.int 0), (.int 1)]), (.bool true), (.int 0)]), (.tuple [(.tuple [(.int 1), (.int 0)]), (.tuple [(.int 1), (.int 0)]), (.bool true), (.int 0)]), (.tuple [(.tuple [(.int 2), (.int 1)]), (.tuple [(.int 2), (.int 1)]), (.bool true), (.int 2)]), (.tuple [(.tuple [(.int 3), (.int 2)]), (.tuple [(.int 3), (.int 1)]), (.bool false), (.int 3)]), (.tuple [(.tuple [(.int 5), (.int 3)]), (.tuple [(.int 5), (.int 3)]), (.bool true), (.int 4)]), (.tuple [(.tuple [(.int 7), (.int 5)]), (.tuple [(.int 7), (.int 4)]), (.bool false), (.int 5)])]
theorem rows_ok : ∀ d ∈ rows0, (rowOk d).isSome = true := by
  have h : rows0.all (fun d => (rowOk d).isSome) = true := by decide +kernel
  exact fun d hd => List.all_eq_true.mp h d hd
theorem rows_due : rows0.map fracD = dues0 := by rfl
theorem pairs_ok : ∀ d ∈ pairs0, ∃ p q : Int, d = .tuple [.int p, .int q] ∧ okFrac (.int p) (.int q) = some (p, q) := by
  intro d hd
  simp only [pairs0, List.mem_cons, List.mem_nil_iff, or_false] at hd
  rcases hd with rfl | rfl | rfl | rfl | rfl | rfl <;> exact ⟨_, _, rfl, by decide +kernel⟩
theorem pairs_due : pairs0.map fourD = dues4 := by rfl
theorem ok__law_always (T : Txt K mg Z) : FnOk P w K mg base (L2N.CX P w) 10 Z.f__law_always Z.d__law_always [] (spR K 0 rAlways) := by
  refine okN T.F__law_always sc__law_always spR_len (fun cdv A outer s H vs Q E hr h => ?_)
  refine ⟨_, (pss_cons (ps_set (i := 0) sc__law_always.nd rfl (by first | exact Or.inl rfl | exact Or.inr rfl) (pe_lst (pa_cons (pe_tup (pa_cons pe_int pa_nil)) (pa_cons (pe_tup (pa_cons pe_int (pa_cons pe_int pa_nil))) (pa_cons (pe_tup (pa_cons pe_int (pa_cons pe_int pa_nil))) (pa_cons (pe_tup (pa_cons pe_int (pa_cons (pe_un un_neg pe_int) pa_nil))) (pa_cons (pe_tup (pa_cons pe_int pa_nil)) (pa_cons (pe_tup (pa_cons pe_int (pa_cons pe_int pa_nil))) (pa_cons (pe_tup (pa_cons pe_int pa_nil)) (pa_cons (pe_tup (pa_cons (pe_un un_neg pe_int) pa_nil)) (pa_cons (pe_tup (pa_cons pe_int (pa_cons pe_int (pa_cons pe_int pa_nil)))) (pa_cons (pe_tup (pa_cons pe_int (pa_cons (pe_un un_neg pe_int) pa_nil))) (pa_cons (pe_lst (pa_cons pe_int (pa_cons pe_int (pa_cons pe_int pa_nil)))) pa_nil)))))))))))))
    (pss_cons (ps_if (pt_not (pt_val (pe_call (ok__law_same T) (hr.mono (by first | decide | omega)) rfl T.m__law_same T.F__law_same.kp T.b__law_same .nil passN (pa_cons (pe_lc (own := [("row", 4)]) rfl sc__law_always.nd (pi_seq (pv 0)) (blkOk_by (own := [("row", 4)]) (N := ["rows", "told", "due", "faults", "row", "p", "q"]) (sc := defScope s__law_always) (by decide +kernel)) (fun _ _ _ _ _ => (pg_name (i := 4) sc__law_always.nd rfl (by first | exact Or.inl rfl | exact Or.inr rfl))) (fun _ _ _ _ _ => pts_nil) (fun _ _ _ _ _ => (pe_call (ok_fraction_of T) (hr.mono (by first | decide | omega)) rfl T.m_fraction_of T.F_fraction_of.kp T.b_fraction_of .nil passN (pa_cons (pv 4) pa_nil)))) (pa_cons (pe_lst (pa_cons (pe_tup (pa_cons pe_int (pa_cons pe_int pa_nil))) (pa_cons (pe_tup (pa_cons pe_int (pa_cons pe_int pa_nil))) (pa_cons (pe_tup (pa_cons pe_int (pa_cons pe_int pa_nil))) (pa_cons (pe_tup (pa_cons pe_int (pa_cons pe_int pa_nil))) (pa_cons (pe_tup (pa_cons pe_int (pa_cons pe_int pa_nil))) (pa_cons (pe_tup (pa_cons pe_int (pa_cons pe_int pa_nil))) (pa_cons (pe_tup (pa_cons pe_int (pa_cons pe_int pa_nil))) (pa_cons (pe_tup (pa_cons pe_int (pa_cons pe_int pa_nil))) (pa_cons (pe_tup (pa_cons pe_int (pa_cons pe_int pa_nil))) (pa_cons (pe_tup (pa_cons pe_int (pa_cons pe_int pa_nil))) (pa_cons (pe_tup (pa_cons pe_int (pa_cons pe_int pa_nil))) pa_nil)))))))))))) pa_nil))))) (pss_one (ps_ret pe_bl)) pss_nil)
    (pss_cons (ps_set (i := 1) sc__law_always.nd rfl (by first | exact Or.inl rfl | exact Or.inr rfl) (pe_tup (pa_cons (pe_call (ok_regular_row T) (hr.mono (by first | decide | omega)) rfl T.m_regular_row T.F_regular_row.kp T.b_regular_row .nil (L2N.passes_call (L2N.takes_of rfl rfl rfl rfl) (fun _ _ _ _ h => h)) (pa_cons pe_int (pa_cons pe_int pa_nil))) (pa_cons (pe_call (ok_regular_row T) (hr.mono (by first | decide | omega)) rfl T.m_regular_row T.F_regular_row.kp T.b_regular_row .nil (L2N.passes_call (L2N.takes_of rfl rfl rfl rfl) (fun _ _ _ _ h => h)) (pa_cons pe_int (pa_cons pe_int pa_nil))) (pa_cons (pe_call (ok_even_row T) (hr.mono (by first | decide | omega)) rfl T.m_even_row T.F_even_row.kp T.b_even_row .nil (L2N.passes_call (L2N.takes_of rfl rfl rfl rfl) (fun _ _ _ _ h => h)) (pa_cons pe_int (pa_cons pe_int pa_nil))) (pa_cons (pe_call (ok_even_row T) (hr.mono (by first | decide | omega)) rfl T.m_even_row T.F_even_row.kp T.b_even_row .nil (L2N.passes_call (L2N.takes_of rfl rfl rfl rfl) (fun _ _ _ _ h => h)) (pa_cons pe_int (pa_cons pe_int pa_nil))) (pa_cons (pe_call (ok_even_row T) (hr.mono (by first | decide | omega)) rfl T.m_even_row T.F_even_row.kp T.b_even_row .nil (L2N.passes_call (L2N.takes_of rfl rfl rfl rfl) (fun _ _ _ _ h => h)) (pa_cons pe_int (pa_cons pe_int pa_nil))) (pa_cons (pe_call (ok_even_row T) (hr.mono (by first | decide | omega)) rfl T.m_even_row T.F_even_row.kp T.b_even_row .nil (L2N.passes_call (L2N.takes_of rfl rfl rfl rfl) (fun _ _ _ _ h => h)) (pa_cons pe_int (pa_cons (pe_un un_neg pe_int) pa_nil))) (pa_cons (pe_call (ok_even_row T) (hr.mono (by first | decide | omega)) rfl T.m_even_row T.F_even_row.kp T.b_even_row .nil (L2N.passes_call (L2N.takes_of rfl rfl rfl rfl) (fun _ _ _ _ h => h)) (pa_cons pe_int (pa_cons pe_int pa_nil))) (pa_cons (pe_call (ok_even_row T) (hr.mono (by first | decide | omega)) rfl T.m_even_row T.F_even_row.kp T.b_even_row .nil (L2N.passes_call (L2N.takes_of rfl rfl rfl rfl) (fun _ _ _ _ h => h)) (pa_cons pe_int (pa_cons (pe_un un_neg pe_int) pa_nil))) (pa_cons (pe_call (ok_even_row T) (hr.mono (by first | decide | omega)) rfl T.m_even_row T.F_even_row.kp T.b_even_row .nil (L2N.passes_call (L2N.takes_of rfl rfl rfl rfl) (fun _ _ _ _ h => h)) (pa_cons pe_int (pa_cons pe_int pa_nil))) pa_nil)))))))))))
    (pss_cons (ps_if (pt_not (pt_val (pe_call (ok__law_same T) (hr.mono (by first | decide | omega)) rfl T.m__law_same T.F__law_same.kp T.b__law_same .nil passN (pa_cons (pv 1) (pa_cons (pe_tup (pa_cons (pe_tup (pa_cons pe_int (pa_cons pe_int pa_nil))) (pa_cons (pe_tup (pa_cons pe_int pa_nil)) (pa_cons (pe_tup (pa_cons pe_int (pa_cons (pe_un un_neg pe_int) pa_nil))) (pa_cons (pe_tup (pa_cons pe_int (pa_cons (pe_un un_neg pe_int) pa_nil))) (pa_cons (pe_tup (pa_cons pe_int (pa_cons (pe_un un_neg pe_int) (pa_cons (pe_un un_neg pe_int) pa_nil)))) (pa_cons (pe_tup (pa_cons (pe_un un_neg pe_int) (pa_cons (pe_un un_neg pe_int) (pa_cons pe_int pa_nil)))) (pa_cons (pe_tup pa_nil) (pa_cons (pe_tup (pa_cons (pe_un un_neg pe_int) (pa_cons (pe_un un_neg pe_int) pa_nil))) (pa_cons (pe_tup (pa_cons pe_int pa_nil)) pa_nil)))))))))) pa_nil))))) (pss_one (ps_ret pe_bl)) pss_nil)
    (pss_cons (ps_setLc (i := 1) (own := [("p", 5), ("q", 6)]) rfl sc__law_always.nd rfl rfl (sw_true rfl rfl rfl (by decide +kernel)) (pi_tup (pe_tup (pa_cons (pe_tup (pa_cons pe_int (pa_cons pe_int pa_nil))) (pa_cons (pe_tup (pa_cons pe_int (pa_cons pe_int pa_nil))) (pa_cons (pe_tup (pa_cons pe_int (pa_cons pe_int pa_nil))) (pa_cons (pe_tup (pa_cons pe_int (pa_cons pe_int pa_nil))) (pa_cons (pe_tup (pa_cons pe_int (pa_cons pe_int pa_nil))) (pa_cons (pe_tup (pa_cons pe_int (pa_cons pe_int pa_nil))) pa_nil)))))))) (blkOk_by (own := [("p", 5), ("q", 6)]) (N := ["rows", "told", "due", "faults", "row", "p", "q"]) (sc := defScope s__law_always) (by decide +kernel)) (fun _ _ _ _ _ => (show PG _ _ (gTup K 2 _) from (pg_tup (by rfl) (pgs_cons (pg_name (i := 5) sc__law_always.nd rfl (by first | exact Or.inl rfl | exact Or.inr rfl)) (pgs_cons (pg_name (i := 6) sc__law_always.nd rfl (by first | exact Or.inl rfl | exact Or.inr rfl)) pgs_nil))))) (fun _ _ _ _ _ => pts_nil) (fun _ _ _ _ _ => (pe_tup (pa_cons (pe_call (ok_mirror_fraction T) (hr.mono (by first | decide | omega)) rfl T.m_mirror_fraction T.F_mirror_fraction.kp T.b_mirror_fraction .nil passN (pa_cons (pv 5) (pa_cons (pv 6) pa_nil))) (pa_cons (pe_call (ok_inverse_fraction T) (hr.mono (by first | decide | omega)) rfl T.m_inverse_fraction T.F_inverse_fraction.kp T.b_inverse_fraction .nil passN (pa_cons (pv 5) (pa_cons (pv 6) pa_nil))) (pa_cons (pe_call (ok_is_own_mirror T) (hr.mono (by first | decide | omega)) rfl T.m_is_own_mirror T.F_is_own_mirror.kp T.b_is_own_mirror .nil passN (pa_cons (pv 5) (pa_cons (pv 6) pa_nil))) (pa_cons (pe_call (ok_least_crossings T) (hr.mono (by first | decide | omega)) rfl T.m_least_crossings T.F_least_crossings.kp T.b_least_crossings .nil passN (pa_cons (pv 5) (pa_cons (pv 6) pa_nil))) pa_nil)))))))
    (pss_cons (ps_set (i := 2) sc__law_always.nd rfl (by first | exact Or.inl rfl | exact Or.inr rfl) (pe_lst (pa_cons (pe_tup (pa_cons (pe_tup (pa_cons pe_int (pa_cons pe_int pa_nil))) (pa_cons (pe_tup (pa_cons pe_int (pa_cons pe_int pa_nil))) (pa_cons pe_bl (pa_cons pe_int pa_nil))))) (pa_cons (pe_tup (pa_cons (pe_tup (pa_cons pe_int (pa_cons pe_int pa_nil))) (pa_cons (pe_tup (pa_cons pe_int (pa_cons pe_int pa_nil))) (pa_cons pe_bl (pa_cons pe_int pa_nil))))) (pa_cons (pe_tup (pa_cons (pe_tup (pa_cons pe_int (pa_cons pe_int pa_nil))) (pa_cons (pe_tup (pa_cons pe_int (pa_cons pe_int pa_nil))) (pa_cons pe_bl (pa_cons pe_int pa_nil))))) (pa_cons (pe_tup (pa_cons (pe_tup (pa_cons pe_int (pa_cons pe_int pa_nil))) (pa_cons (pe_tup (pa_cons pe_int (pa_cons pe_int pa_nil))) (pa_cons pe_bl (pa_cons pe_int pa_nil))))) (pa_cons (pe_tup (pa_cons (pe_tup (pa_cons pe_int (pa_cons pe_int pa_nil))) (pa_cons (pe_tup (pa_cons pe_int (pa_cons pe_int pa_nil))) (pa_cons pe_bl (pa_cons pe_int pa_nil))))) (pa_cons (pe_tup (pa_cons (pe_tup (pa_cons pe_int (pa_cons pe_int pa_nil))) (pa_cons (pe_tup (pa_cons pe_int (pa_cons pe_int pa_nil))) (pa_cons pe_bl (pa_cons pe_int pa_nil))))) pa_nil))))))))
    (pss_cons (ps_if (pt_not (pt_val (pe_call (ok__law_same T) (hr.mono (by first | decide | omega)) rfl T.m__law_same T.F__law_same.kp T.b__law_same .nil passN (pa_cons (pv 1) (pa_cons (pv 2) pa_nil))))) (pss_one (ps_ret pe_bl)) pss_nil)
    (pss_cons (ps_set (i := 3) sc__law_always.nd rfl (by first | exact Or.inl rfl | exact Or.inr rfl) (pe_lst (pa_cons (pe_call (ok__law_fault T) (hr.mono (by first | decide | omega)) rfl T.m__law_fault T.F__law_fault.kp T.b__law_fault .nil passN (pa_cons pe_str (pa_cons (pe_tup pa_nil) (pa_cons pe_non pa_nil)))) (pa_cons (pe_call (ok__law_fault T) (hr.mono (by first | decide | omega)) rfl T.m__law_fault T.F__law_fault.kp T.b__law_fault .nil passN (pa_cons pe_str (pa_cons (pe_tup (pa_cons pe_int pa_nil)) (pa_cons pe_non pa_nil)))) (pa_cons (pe_call (ok__law_fault T) (hr.mono (by first | decide | omega)) rfl T.m__law_fault T.F__law_fault.kp T.b__law_fault .nil passN (pa_cons pe_str (pa_cons (pe_tup (pa_cons pe_int pa_nil)) (pa_cons pe_non pa_nil)))) (pa_cons (pe_call (ok__law_fault T) (hr.mono (by first | decide | omega)) rfl T.m__law_fault T.F__law_fault.kp T.b__law_fault .nil passN (pa_cons pe_str (pa_cons (pe_tup (pa_cons pe_bl pa_nil)) (pa_cons pe_non pa_nil)))) (pa_cons (pe_call (ok__law_fault T) (hr.mono (by first | decide | omega)) rfl T.m__law_fault T.F__law_fault.kp T.b__law_fault .nil passN (pa_cons pe_str (pa_cons pe_int (pa_cons pe_int pa_nil)))) (pa_cons (pe_call (ok__law_fault T) (hr.mono (by first | decide | omega)) rfl T.m__law_fault T.F__law_fault.kp T.b__law_fault .nil passN (pa_cons pe_str (pa_cons pe_int (pa_cons pe_int pa_nil)))) (pa_cons (pe_call (ok__law_fault T) (hr.mono (by first | decide | omega)) rfl T.m__law_fault T.F__law_fault.kp T.b__law_fault .nil passN (pa_cons pe_str (pa_cons pe_int (pa_cons pe_int pa_nil)))) (pa_cons (pe_call (ok__law_fault T) (hr.mono (by first | decide | omega)) rfl T.m__law_fault T.F__law_fault.kp T.b__law_fault .nil passN (pa_cons pe_str (pa_cons pe_int (pa_cons pe_int pa_nil)))) (pa_cons (pe_call (ok__law_fault T) (hr.mono (by first | decide | omega)) rfl T.m__law_fault T.F__law_fault.kp T.b__law_fault .nil passN (pa_cons pe_str (pa_cons pe_int (pa_cons (pe_un un_neg pe_int) pa_nil)))) (pa_cons (pe_call (ok__law_fault T) (hr.mono (by first | decide | omega)) rfl T.m__law_fault T.F__law_fault.kp T.b__law_fault .nil passN (pa_cons pe_str (pa_cons pe_int (pa_cons pe_int pa_nil)))) (pa_cons (pe_call (ok__law_fault T) (hr.mono (by first | decide | omega)) rfl T.m__law_fault T.F__law_fault.kp T.b__law_fault .nil passN (pa_cons pe_str (pa_cons pe_int (pa_cons pe_int pa_nil)))) (pa_cons (pe_call (ok__law_fault T) (hr.mono (by first | decide | omega)) rfl T.m__law_fault T.F__law_fault.kp T.b__law_fault .nil passN (pa_cons pe_str (pa_cons pe_int (pa_cons pe_int pa_nil)))) (pa_cons (pe_call (ok__law_fault T) (hr.mono (by first | decide | omega)) rfl T.m__law_fault T.F__law_fault.kp T.b__law_fault .nil passN (pa_cons pe_str (pa_cons (pe_op op_add (pe_op op_pow pe_int pe_int) pe_int) (pa_cons pe_int pa_nil)))) (pa_cons (pe_call (ok__law_fault T) (hr.mono (by first | decide | omega)) rfl T.m__law_fault T.F__law_fault.kp T.b__law_fault .nil passN (pa_cons pe_str (pa_cons (pe_op op_repT (pe_tup (pa_cons pe_int pa_nil)) pe_int) (pa_cons pe_non pa_nil)))) pa_nil))))))))))))))))
    (pss_one (ps_ret (pe_call (ok__law_same T) (hr.mono (by first | decide | omega)) rfl T.m__law_same T.F__law_same.kp T.b__law_same .nil passN (pa_cons (pv 3) (pa_cons (pe_lst (pa_cons (pe_lst (pa_cons pe_int pa_nil)) (pa_cons (pe_lst (pa_cons pe_int pa_nil)) (pa_cons (pe_lst (pa_cons pe_str pa_nil)) (pa_cons (pe_lst (pa_cons pe_int pa_nil)) (pa_cons (pe_lst (pa_cons pe_int pa_nil)) (pa_cons (pe_lst (pa_cons pe_int pa_nil)) (pa_cons (pe_lst (pa_cons pe_int pa_nil)) (pa_cons (pe_lst (pa_cons pe_int pa_nil)) (pa_cons (pe_lst (pa_cons pe_int pa_nil)) (pa_cons (pe_lst (pa_cons pe_int pa_nil)) (pa_cons (pe_lst (pa_cons pe_str pa_nil)) (pa_cons (pe_lst (pa_cons pe_int pa_nil)) (pa_cons (pe_lst (pa_cons pe_int pa_nil)) (pa_cons (pe_lst (pa_cons pe_int pa_nil)) pa_nil))))))))))))))) pa_nil))))))))))))), ?_⟩
  obtain ⟨G, ds, r, b, ha, _, ⟨rfl, rfl⟩, k⟩ := h
  cases ha
  refine q_set K (d := .list rows0) b (ed_lst (ea_cons (ed_tup (ea_cons ed_int ea_nil)) (ea_cons (ed_tup (ea_cons ed_int (ea_cons ed_int ea_nil))) (ea_cons (ed_tup (ea_cons ed_int (ea_cons ed_int ea_nil))) (ea_cons (ed_tup (ea_cons ed_int (ea_cons (ed_neg ed_int) ea_nil))) (ea_cons (ed_tup (ea_cons ed_int ea_nil)) (ea_cons (ed_tup (ea_cons ed_int (ea_cons ed_int ea_nil))) (ea_cons (ed_tup (ea_cons ed_int ea_nil)) (ea_cons (ed_tup (ea_cons (ed_neg ed_int) ea_nil)) (ea_cons (ed_tup (ea_cons ed_int (ea_cons ed_int (ea_cons ed_int ea_nil)))) (ea_cons (ed_tup (ea_cons ed_int (ea_cons (ed_neg ed_int) ea_nil))) (ea_cons (ed_lst (ea_cons ed_int (ea_cons ed_int (ea_cons ed_int ea_nil)))) ea_nil)))))))))))) fun x G1 H1 w1 hx => ?_
  refine q_when K (c := false) w1.b (EvB.to (eb_not (eb_val (ed_call (d := .bool true) (ea_cons (ed_mapS fracD (ed_var rfl hx) (.inl rfl) (by decide) (fun _ => rfl) fun d hd v G2 H2 w2 hv => ?_) (ea_cons (ed_lst (ea_cons (ed_tup (ea_cons ed_int (ea_cons ed_int ea_nil))) (ea_cons (ed_tup (ea_cons ed_int (ea_cons ed_int ea_nil))) (ea_cons (ed_tup (ea_cons ed_int (ea_cons ed_int ea_nil))) (ea_cons (ed_tup (ea_cons ed_int (ea_cons ed_int ea_nil))) (ea_cons (ed_tup (ea_cons ed_int (ea_cons ed_int ea_nil))) (ea_cons (ed_tup (ea_cons ed_int (ea_cons ed_int ea_nil))) (ea_cons (ed_tup (ea_cons ed_int (ea_cons ed_int ea_nil))) (ea_cons (ed_tup (ea_cons ed_int (ea_cons ed_int ea_nil))) (ea_cons (ed_tup (ea_cons ed_int (ea_cons ed_int ea_nil))) (ea_cons (ed_tup (ea_cons ed_int (ea_cons ed_int ea_nil))) (ea_cons (ed_tup (ea_cons ed_int (ea_cons ed_int ea_nil))) ea_nil)))))))))))) ea_nil)) rfl ⟨.list dues0, by rw [rows_due]; rfl, by decide +kernel, by decide +kernel, by decide +kernel, rfl⟩))) rfl) (fun e => nomatch e) fun _ G2 H2 w2 => ?_
  · have hr := rows_ok d hd
    cases e : rowOk d with
    | none => rw [e] at hr; cases hr
    | some ns => exact ed_call (ea_cons (ed_var rfl hv) ea_nil) rfl ⟨_, rfl, by simp only [fracD, e]⟩
  refine q_set K (d := (.tuple [(.tuple [(.int 3), (.int 2)]), (.tuple [(.int 2)]), (.tuple [(.int 4), (.int (-2))]), (.tuple [(.int 2), (.int (-2))]), (.tuple [(.int 2), (.int (-2)), (.int (-2))]), (.tuple [(.int (-2)), (.int (-2)), (.int 2)]), (.tuple []), (.tuple [(.int (-2)), (.int (-2))]), (.tuple [(.int 2)])])) w2.b (ed_tup (ea_cons (ed_call (d := (.tuple [(.int 3), (.int 2)])) (ea_cons ed_int (ea_cons ed_int ea_nil)) rfl (g_reg (ns := [3, 2]) (by decide +kernel) (by decide +kernel) (by decide +kernel))) (ea_cons (ed_call (d := (.tuple [(.int 2)])) (ea_cons ed_int (ea_cons ed_int ea_nil)) rfl (g_reg (ns := [2]) (by decide +kernel) (by decide +kernel) (by decide +kernel))) (ea_cons (ed_call (d := (.tuple [(.int 4), (.int (-2))])) (ea_cons ed_int (ea_cons ed_int ea_nil)) rfl (g_even (ns := [4, -2]) (by decide +kernel) (by decide +kernel) (by decide +kernel))) (ea_cons (ed_call (d := (.tuple [(.int 2), (.int (-2))])) (ea_cons ed_int (ea_cons ed_int ea_nil)) rfl (g_even (ns := [2, -2]) (by decide +kernel) (by decide +kernel) (by decide +kernel))) (ea_cons (ed_call (d := (.tuple [(.int 2), (.int (-2)), (.int (-2))])) (ea_cons ed_int (ea_cons ed_int ea_nil)) rfl (g_even (ns := [2, -2, -2]) (by decide +kernel) (by decide +kernel) (by decide +kernel))) (ea_cons (ed_call (d := (.tuple [(.int (-2)), (.int (-2)), (.int 2)])) (ea_cons ed_int (ea_cons (ed_neg ed_int) ea_nil)) rfl (g_even (ns := [-2, -2, 2]) (by decide +kernel) (by decide +kernel) (by decide +kernel))) (ea_cons (ed_call (d := (.tuple [])) (ea_cons ed_int (ea_cons ed_int ea_nil)) rfl (g_even (ns := []) (by decide +kernel) (by decide +kernel) (by decide +kernel))) (ea_cons (ed_call (d := (.tuple [(.int (-2)), (.int (-2))])) (ea_cons ed_int (ea_cons (ed_neg ed_int) ea_nil)) rfl (g_even (ns := [-2, -2]) (by decide +kernel) (by decide +kernel) (by decide +kernel))) (ea_cons (ed_call (d := (.tuple [(.int 2)])) (ea_cons ed_int (ea_cons ed_int ea_nil)) rfl (g_even (ns := [2]) (by decide +kernel) (by decide +kernel) (by decide +kernel))) ea_nil)))))))))) fun y G3 H3 w3 hy => ?_
  refine q_when K (c := false) w3.b (EvB.to (eb_not (eb_val (ed_call (d := .bool true) (ea_cons (ed_var rfl hy) (ea_cons (ed_tup (ea_cons (ed_tup (ea_cons ed_int (ea_cons ed_int ea_nil))) (ea_cons (ed_tup (ea_cons ed_int ea_nil)) (ea_cons (ed_tup (ea_cons ed_int (ea_cons (ed_neg ed_int) ea_nil))) (ea_cons (ed_tup (ea_cons ed_int (ea_cons (ed_neg ed_int) ea_nil))) (ea_cons (ed_tup (ea_cons ed_int (ea_cons (ed_neg ed_int) (ea_cons (ed_neg ed_int) ea_nil)))) (ea_cons (ed_tup (ea_cons (ed_neg ed_int) (ea_cons (ed_neg ed_int) (ea_cons ed_int ea_nil)))) (ea_cons (ed_tup ea_nil) (ea_cons (ed_tup (ea_cons (ed_neg ed_int) (ea_cons (ed_neg ed_int) ea_nil))) (ea_cons (ed_tup (ea_cons ed_int ea_nil)) ea_nil)))))))))) ea_nil)) rfl ⟨_, rfl, by decide +kernel, by decide +kernel, by decide +kernel, rfl⟩))) rfl) (fun e => nomatch e) fun _ G4 H4 w4 => ?_
  refine q_set K (d := .list dues4) w4.b (EvD.to (ed_lcT (fun _ => true) fourD (ds := pairs0) (ed_tup (ea_cons (ed_tup (ea_cons ed_int (ea_cons ed_int ea_nil))) (ea_cons (ed_tup (ea_cons ed_int (ea_cons ed_int ea_nil))) (ea_cons (ed_tup (ea_cons ed_int (ea_cons ed_int ea_nil))) (ea_cons (ed_tup (ea_cons ed_int (ea_cons ed_int ea_nil))) (ea_cons (ed_tup (ea_cons ed_int (ea_cons ed_int ea_nil))) (ea_cons (ed_tup (ea_cons ed_int (ea_cons ed_int ea_nil))) ea_nil))))))) (by decide) fun d hd v G5 H5 w5 hv => ?_) ?_) fun z G5 H5 w5 hz => ?_
  · obtain ⟨p, q, rfl, e⟩ := pairs_ok d hd
    refine turn_2 w5.b hv (fun _ _ => rfl) (fun x y hx hy => eb_yes) fun x y hx hy _ => ?_
    cases hx; cases hy
    exact ed_tup (ea_cons (ed_call (ea_cons (ed_vI rfl) (ea_cons (ed_vI rfl) ea_nil)) rfl ⟨_, _, rfl, by simp only [e]⟩) (ea_cons (ed_call (ea_cons (ed_vI rfl) (ea_cons (ed_vI rfl) ea_nil)) rfl ⟨_, _, rfl, by simp only [e]⟩)
      (ea_cons (ed_call (ea_cons (ed_vI rfl) (ea_cons (ed_vI rfl) ea_nil)) rfl ⟨_, _, rfl, by simp only [e]⟩) (ea_cons (ed_call (ea_cons (ed_vI rfl) (ea_cons (ed_vI rfl) ea_nil)) rfl ⟨_, _, rfl, by simp only [e]⟩) ea_nil))))
  · rw [fm_true, pairs_due]
  refine q_set K (d := .list dues4) w5.b (ed_lst (ea_cons (ed_tup (ea_cons (ed_tup (ea_cons ed_int (ea_cons ed_int ea_nil))) (ea_cons (ed_tup (ea_cons ed_int (ea_cons ed_int ea_nil))) (ea_cons ed_bl (ea_cons ed_int ea_nil))))) (ea_cons (ed_tup (ea_cons (ed_tup (ea_cons ed_int (ea_cons ed_int ea_nil))) (ea_cons (ed_tup (ea_cons ed_int (ea_cons ed_int ea_nil))) (ea_cons ed_bl (ea_cons ed_int ea_nil))))) (ea_cons (ed_tup (ea_cons (ed_tup (ea_cons ed_int (ea_cons ed_int ea_nil))) (ea_cons (ed_tup (ea_cons ed_int (ea_cons ed_int ea_nil))) (ea_cons ed_bl (ea_cons ed_int ea_nil))))) (ea_cons (ed_tup (ea_cons (ed_tup (ea_cons ed_int (ea_cons ed_int ea_nil))) (ea_cons (ed_tup (ea_cons ed_int (ea_cons ed_int ea_nil))) (ea_cons ed_bl (ea_cons ed_int ea_nil))))) (ea_cons (ed_tup (ea_cons (ed_tup (ea_cons ed_int (ea_cons ed_int ea_nil))) (ea_cons (ed_tup (ea_cons ed_int (ea_cons ed_int ea_nil))) (ea_cons ed_bl (ea_cons ed_int ea_nil))))) (ea_cons (ed_tup (ea_cons (ed_tup (ea_cons ed_int (ea_cons ed_int ea_nil))) (ea_cons (ed_tup (ea_cons ed_int (ea_cons ed_int ea_nil))) (ea_cons ed_bl (ea_cons ed_int ea_nil))))) ea_nil))))))) fun u G6 H6 w6 hu => ?_
  refine q_when K (c := false) w6.b (EvB.to (eb_not (eb_val (ed_call (d := .bool true) (ea_cons (ed_var rfl (dp_up w6.g hz)) (ea_cons (ed_var rfl hu) ea_nil)) rfl ⟨_, rfl, by decide +kernel, by decide +kernel, by decide +kernel, rfl⟩))) rfl) (fun e => nomatch e) fun _ G7 H7 w7 => ?_
  refine q_set K (d := (.list [(.list [(.int 0)]), (.list [(.int 0)]), (.list [(.str "none")]), (.list [(.int 0)]), (.list [(.int 3)]), (.list [(.int 1)]), (.list [(.int 3)]), (.list [(.int 2)]), (.list [(.int 2)]), (.list [(.int 4)]), (.list [(.str "none")]), (.list [(.int 1)]), (.list [(.int 1)]), (.list [(.int 0)])])) w7.b (ed_lst (ea_cons (ed_call (d := (.list [(.int 0)])) (ea_cons ed_str (ea_cons (ed_tup ea_nil) (ea_cons ed_non ea_nil))) rfl (g_fault .row (o := (some 0)) (by decide +kernel))) (ea_cons (ed_call (d := (.list [(.int 0)])) (ea_cons ed_str (ea_cons (ed_tup (ea_cons ed_int ea_nil)) (ea_cons ed_non ea_nil))) rfl (g_fault .row (o := (some 0)) (by decide +kernel))) (ea_cons (ed_call (d := (.list [(.str "none")])) (ea_cons ed_str (ea_cons (ed_tup (ea_cons ed_int ea_nil)) (ea_cons ed_non ea_nil))) rfl (g_fault .row (o := none) (by decide +kernel))) (ea_cons (ed_call (d := (.list [(.int 0)])) (ea_cons ed_str (ea_cons (ed_tup (ea_cons ed_bl ea_nil)) (ea_cons ed_non ea_nil))) rfl (g_fault .row (o := (some 0)) (by decide +kernel))) (ea_cons (ed_call (d := (.list [(.int 3)])) (ea_cons ed_str (ea_cons ed_int (ea_cons ed_int ea_nil))) rfl (g_fault .regular (o := (some 3)) (by decide +kernel))) (ea_cons (ed_call (d := (.list [(.int 1)])) (ea_cons ed_str (ea_cons ed_int (ea_cons ed_int ea_nil))) rfl (g_fault .regular (o := (some 1)) (by decide +kernel))) (ea_cons (ed_call (d := (.list [(.int 3)])) (ea_cons ed_str (ea_cons ed_int (ea_cons ed_int ea_nil))) rfl (g_fault .regular (o := (some 3)) (by decide +kernel))) (ea_cons (ed_call (d := (.list [(.int 2)])) (ea_cons ed_str (ea_cons ed_int (ea_cons ed_int ea_nil))) rfl (g_fault .even (o := (some 2)) (by decide +kernel))) (ea_cons (ed_call (d := (.list [(.int 2)])) (ea_cons ed_str (ea_cons ed_int (ea_cons (ed_neg ed_int) ea_nil))) rfl (g_fault .even (o := (some 2)) (by decide +kernel))) (ea_cons (ed_call (d := (.list [(.int 4)])) (ea_cons ed_str (ea_cons ed_int (ea_cons ed_int ea_nil))) rfl (g_fault .even (o := (some 4)) (by decide +kernel))) (ea_cons (ed_call (d := (.list [(.str "none")])) (ea_cons ed_str (ea_cons ed_int (ea_cons ed_int ea_nil))) rfl (g_fault .even (o := none) (by decide +kernel))) (ea_cons (ed_call (d := (.list [(.int 1)])) (ea_cons ed_str (ea_cons ed_int (ea_cons ed_int ea_nil))) rfl (g_fault .own (o := (some 1)) (by decide +kernel))) (ea_cons (ed_call (d := (.list [(.int 1)])) (ea_cons ed_str (ea_cons (ed_add (ed_pow ed_int ed_int ⟨by decide, by decide, by decide⟩) ed_int) (ea_cons ed_int ea_nil))) rfl (g_fault .least (o := (some 1)) (by decide +kernel))) (ea_cons (ed_call (d := (.list [(.int 0)])) (ea_cons ed_str (ea_cons (ed_repT (ed_tup (ea_cons ed_int ea_nil)) ed_int (by simp) (by decide) (by decide) (by decide)) (ea_cons ed_non ea_nil))) rfl (g_fault .row (o := (some 0)) (by decide +kernel))) ea_nil))))))))))))))) fun f G8 H8 w8 hf => ?_
  exact s_ret K w8.b (ed_call (d := .bool true) (ea_cons (ed_var rfl hf) (ea_cons (ed_lst (ea_cons (ed_lst (ea_cons ed_int ea_nil)) (ea_cons (ed_lst (ea_cons ed_int ea_nil)) (ea_cons (ed_lst (ea_cons ed_str ea_nil)) (ea_cons (ed_lst (ea_cons ed_int ea_nil)) (ea_cons (ed_lst (ea_cons ed_int ea_nil)) (ea_cons (ed_lst (ea_cons ed_int ea_nil)) (ea_cons (ed_lst (ea_cons ed_int ea_nil)) (ea_cons (ed_lst (ea_cons ed_int ea_nil)) (ea_cons (ed_lst (ea_cons ed_int ea_nil)) (ea_cons (ed_lst (ea_cons ed_int ea_nil)) (ea_cons (ed_lst (ea_cons ed_str ea_nil)) (ea_cons (ed_lst (ea_cons ed_int ea_nil)) (ea_cons (ed_lst (ea_cons ed_int ea_nil)) (ea_cons (ed_lst (ea_cons ed_int ea_nil)) ea_nil))))))))))))))) ea_nil)) rfl ⟨_, rfl, by decide +kernel, by decide +kernel, by decide +kernel, rfl⟩) fun v G9 H9 w9 hv => k v G9 H9 ((((((((w1.trans w2).trans w3).trans w4).trans w5).trans w6).trans w7).trans w8).trans w9) hv
end
end K63
namespace K63
open PySem PySem.Spec PyProof.Rows L2 L3 TF
section
variable {P : Program} {w : World} {K : Fg} {mg : Str → Option Value} {base : Heap} {Z : Ad}
def spLaw (K : Fg) : Sp := fun vs H Q _ => ∃ (G : Hp) (a : Addr) (ns : List Int), vs = [.ref a] ∧ Same G H ∧ SqL K G a (ns.map V.int) ∧ ns.length ≤ 63 ∧ ∀ H1, Q (.bl true) H1
theorem spLaw_len {K : Fg} : ∀ vs H Q E, spLaw K vs H Q E → vs.length = 1 := fun vs H Q E h => by
  obtain ⟨_, _, _, rfl, _⟩ := h; rfl
def PairOk (x y : PyData) : Prop := ∃ p q : Int, x = .int p ∧ y = .int q ∧ 2 ≤ p ∧ p ≤ 1000000000 ∧ 1 ≤ q ∧ q < p ∧ Nat.gcd p.natAbs q.natAbs = 1
theorem ep_pair {a : Addr} {σ : L2.St} {G H : Hp} {i : Nat} {m : Int} {E : XK} (hs : σ[i]? = some (some (.ref a))) (h0 : 2 ≤ m) (h1 : m ≤ 300000) :
    EvP K a (tCall (spPair K) [] E (tCons (tVar i) (tCons (tC (.int m)) tNil))) σ G H (fun d => ∃ x y, d = .tuple [x, y] ∧ PairOk x y) := fun G1 H1 w p Q q =>
  ⟨_, hs, G1, a, m, rfl, w.b, p, h0, h1, fun v x y G2 H2 a1 a2 a3 a4 a5 w2 p2 r => q _ v G2 H2 ⟨_, _, rfl, x, y, rfl, rfl, a1, by omega, a3, a4, a5⟩ w2 p2 r⟩
theorem ep_gpair {a : Addr} {σ : L2.St} {G H : Hp} {i : Nat} {E : XK} (hs : σ[i]? = some (some (.ref a))) :
    EvP K a (tCall (spGPair K) [] E (tCons (tVar i) tNil)) σ G H (fun d => ∃ x y, d = .tuple [x, y] ∧ PairOk x y) := fun G1 H1 w p Q q =>
  ⟨_, hs, G1, a, rfl, w.b, p, fun v x y G2 H2 a1 a2 a3 a4 a5 w2 p2 r => q _ v G2 H2 ⟨_, _, rfl, x, y, rfl, rfl, a1, a2, a3, a4, a5⟩ w2 p2 r⟩
/-- the rows that the law draws -/
def RowOk (ds : List PyData) : Prop := ∃ ns : List Int, ds = iL ns ∧ 1 ≤ ns.length ∧ ns.length ≤ 12 ∧ ∀ n ∈ ns, n.natAbs ≤ 4
theorem rowOk_of {ns : List Int} (h1 : 1 ≤ ns.length) (h2 : ns.length ≤ 12) (h3 : ∀ n ∈ ns, n.natAbs ≤ 4) {d : PyData} (hd : d = .list (iL ns) ∨ d = .tuple (iL ns)) : rowOk d = some ns := by
  have hs : ∀ (ns : List Int), (∀ n ∈ ns, n.natAbs ≤ 4) → absSum ns ≤ 4 * ns.length := by
    intro ns
    induction ns with
    | nil => intro _; exact Int.le_refl _
    | cons n ns ih =>
      intro h
      have e1 : ab n ≤ 4 := by have := h n (List.mem_cons_self ..); unfold ab; split <;> omega
      have e2 := ih fun m hm => h m (List.mem_cons_of_mem _ hm)
      show (ab n :: ns.map ab).sum ≤ _
      rw [List.sum_cons, List.length_cons]
      unfold absSum at e2
      omega
  have e := hs ns h3
  have hl := len_iL ns
  unfold rowOk
  rcases hd with rfl | rfl
  · show (if 1 ≤ (iL ns).length ∧ (iL ns).length ≤ 60 then _ else none) = _
    rw [if_pos (by omega), toInts_iL]
    show (if absSum ns ≤ 60 then some ns else none) = _
    rw [if_pos (by omega)]
  · show (if 1 ≤ (iL ns).length ∧ (iL ns).length ≤ 60 then _ else none) = _
    rw [if_pos (by omega), toInts_iL]
    show (if absSum ns ≤ 60 then some ns else none) = _
    rw [if_pos (by omega)]
theorem ints_of {ds : List PyData} (h : ∀ d ∈ ds, ∃ n : Int, d = .int n ∧ n.natAbs ≤ 4) : ∃ ns : List Int, ds = iL ns ∧ ∀ n ∈ ns, n.natAbs ≤ 4 := by
  induction ds with
  | nil => exact ⟨[], rfl, fun _ h => nomatch h⟩
  | cons d ds ih =>
    obtain ⟨n, rfl, hn⟩ := h d (List.mem_cons_self ..)
    obtain ⟨ns, rfl, hns⟩ := ih fun d hd => h d (List.mem_cons_of_mem _ hd)
    refine ⟨n :: ns, rfl, fun m hm => ?_⟩
    rcases List.mem_cons.mp hm with rfl | hm
    · exact hn
    · exact hns m hm
def wrong1 : List PyData := [(.tuple [(.int 0), (.int 0)]), (.tuple [(.int 0), (.int 2)]), (.tuple [(.int (-1)), (.int 0)]), (.tuple [(.int 1), (.int 1)]), (.tuple [(.int 6), (.int 3)]), (.tuple [(.int 6), (.int 6)]), (.tuple [(.int 6), (.int 7)]), (.tuple [(.int 6), (.int (-1))]), (.tuple [(.int (10 ^ 9 + 1)), (.int 2)]), (.tuple [.none, (.int 1)]), (.tuple [(.int 5), .none]), (.tuple [(.bool true), (.int 0)]), (.tuple [(.int 5), (.bool true)]), (.tuple [(.str "5"), (.int 1)]), (.tuple [(.int 5), (.tuple [(.int 1)])]), (.tuple [(.list []), (.dict [])])]
def wrong2 : List PyData := [(.tuple [(.int 0), (.int 1)]), (.tuple [(.int 3), (.int 1)]), (.tuple [(.int 4), (.int 2)]), (.tuple [(.int 9), (.int 6)]), (.tuple [(.int 5), (.int 6)]), (.tuple [(.int 5), (.int (-6))]), (.tuple [(.int (-3)), (.int 2)]), (.tuple [(.int (10 ^ 9 + 1)), (.int 2)]), (.tuple [.none, (.int 0)]), (.tuple [(.int 5), .none]), (.tuple [(.bool true), (.int 0)]), (.tuple [(.int 5), (.bool false)]), (.tuple [(.str "5"), (.int 2)]), (.tuple [(.list []), (.dict [])])]
def wrong3 : List PyData := [.none, (.int 5), (.str "12"), (.dict []), (.list []), (.tuple [(.int 1), .none]), (.list [(.int 1), (.bool true)]), (.tuple [(.int 31), (.int (-30))]), (.list (List.replicate 61 [(.int 1)]).flatten), (.tuple [(.int 1), (.str "2")])]
def words1 : List PyData := [.str Wd.regular.s, .str Wd.mirror.s, .str Wd.inverse.s, .str Wd.own.s, .str Wd.least.s]
theorem wrong1_bad : ∀ d ∈ wrong1, ∃ x y, d = .tuple [x, y] ∧ okFrac x y = none := by
  intro d hd
  simp only [wrong1, List.mem_cons, List.not_mem_nil, or_false] at hd
  rcases hd with rfl | rfl | rfl | rfl | rfl | rfl | rfl | rfl | rfl | rfl | rfl | rfl | rfl | rfl | rfl | rfl <;> exact ⟨_, _, rfl, by decide +kernel⟩
theorem wrong2_bad : ∀ d ∈ wrong2, ∃ x y, d = .tuple [x, y] ∧ faultOf .even x y = some 2 := by
  intro d hd
  simp only [wrong2, List.mem_cons, List.not_mem_nil, or_false] at hd
  rcases hd with rfl | rfl | rfl | rfl | rfl | rfl | rfl | rfl | rfl | rfl | rfl | rfl | rfl | rfl <;> exact ⟨_, _, rfl, by decide +kernel⟩
theorem wrong3_bad : ∀ d ∈ wrong3, faultOf .row d .none = some 0 := by
  intro d hd
  simp only [wrong3, List.mem_cons, List.not_mem_nil, or_false] at hd
  rcases hd with rfl | rfl | rfl | rfl | rfl | rfl | rfl | rfl | rfl | rfl <;> decide +kernel
theorem words1_so {x y : PyData} (h : okFrac x y = none) : ∀ d ∈ words1, ∃ wd : Wd, d = .str wd.s ∧ faultOf wd x y = some 1 := by
  intro d hd
  simp only [words1, List.mem_cons, List.not_mem_nil, or_false] at hd
  rcases hd with rfl | rfl | rfl | rfl | rfl
  · exact ⟨.regular, rfl, by simp [faultOf, h]⟩
  · exact ⟨.mirror, rfl, by simp [faultOf, h]⟩
  · exact ⟨.inverse, rfl, by simp [faultOf, h]⟩
  · exact ⟨.own, rfl, by simp [faultOf, h]⟩
  · exact ⟨.least, rfl, by simp [faultOf, h]⟩
theorem gcd_sub_self (p q : Int) : Nat.gcd p.natAbs (q - p).natAbs = Nat.gcd p.natAbs q.natAbs := by
  rw [Nat.gcd_comm p.natAbs q.natAbs, ← gcd_natAbs_sub (p := q) (e := p) (c := 1), Int.one_mul]
theorem ok_law (T : Txt K mg Z) : FnOk P w K mg base (L2N.CX P w) 12 Z.f_law Z.d_law ["script"] (spLaw K) := by
  refine okN T.F_law sc_law spLaw_len (fun cdv A outer s H vs Q E hr h => ?_)
  refine ⟨_, (pss_cons (ps_set (i := 1) sc_law.nd rfl (by first | exact Or.inl rfl | exact Or.inr rfl) (pe_call (ok__law_pool T) (hr.mono (by first | decide | omega)) rfl T.m__law_pool T.F__law_pool.kp T.b__law_pool .nil passN (pa_cons (pv 0) pa_nil)))
    (pss_cons (ps_if (pt_not (pt_val (pe_call0 (ok__law_always T) (hr.mono (by decide)) rfl T.m__law_always T.F__law_always.kp T.b__law_always .nil passN))) (pss_one (ps_ret pe_bl)) pss_nil)
    (pss_cons (ps_for (passes_of rfl) rfl (pi_range1 (by rfl) T.z_range (pa_cons pe_int pa_nil)) (pg_name (i := 2) sc_law.nd rfl (by first | exact Or.inl rfl | exact Or.inr rfl)) (pss_cons (ps_set (i := 3) sc_law.nd rfl (by first | exact Or.inl rfl | exact Or.inr rfl) (pe_callTy call_tuple_of (by rfl) T.z_tuple (by decide +kernel) (pa_cons (pe_lc (own := [("k", 8)]) rfl sc_law.nd (pi_range1 (by rfl) T.z_range (pa_cons (pe_op op_add pe_int (pe_call (ok__law_take T) (hr.mono (by first | decide | omega)) rfl T.m__law_take T.F__law_take.kp T.b__law_take .nil passN (pa_cons (pv 1) (pa_cons pe_int pa_nil)))) pa_nil)) (blkOk_by (own := [("k", 8)]) (N := ["script", "pool", "turn", "row", "p", "q", "e", "wrong", "k"]) (sc := defScope s_law) (by decide +kernel)) (fun _ _ _ _ _ => (pg_name (i := 8) sc_law.nd rfl (by first | exact Or.inl rfl | exact Or.inr rfl))) (fun _ _ _ _ _ => pts_nil) (fun _ _ _ _ _ => (pe_op op_mul (pe_call (ok__law_pick T) (hr.mono (by first | decide | omega)) rfl T.m__law_pick T.F__law_pick.kp T.b__law_pick .nil passN (pa_cons (pv 1) (pa_cons (pe_lst (pa_cons pe_int (pa_cons pe_int (pa_cons (pe_un un_neg pe_int) pa_nil)))) pa_nil))) (pe_call (ok__law_take T) (hr.mono (by first | decide | omega)) rfl T.m__law_take T.F__law_take.kp T.b__law_take .nil passN (pa_cons (pv 1) (pa_cons pe_int pa_nil)))))) pa_nil)))
    (pss_cons (ps_if (pt_not (pt_val (pe_call (ok__law_same T) (hr.mono (by first | decide | omega)) rfl T.m__law_same T.F__law_same.kp T.b__law_same .nil passN (pa_cons (pe_call (ok_fraction_of T) (hr.mono (by first | decide | omega)) rfl T.m_fraction_of T.F_fraction_of.kp T.b_fraction_of .nil (L2N.passes_call (L2N.takes_of rfl rfl rfl rfl) (fun _ _ _ _ h => h)) (pa_cons (pe_call (ok__law_given T) (hr.mono (by first | decide | omega)) rfl T.m__law_given T.F__law_given.kp T.b__law_given .nil passN (pa_cons (pv 1) (pa_cons (pv 3) pa_nil))) pa_nil)) (pa_cons (pe_call (ok__law_fraction T) (hr.mono (by first | decide | omega)) rfl T.m__law_fraction T.F__law_fraction.kp T.b__law_fraction .nil passN (pa_cons (pv 3) pa_nil)) pa_nil))))) (pss_one (ps_ret pe_bl)) pss_nil)
    (pss_cons (ps_asg (pe_ifExp (pt_cmpR op_lt (pv 2) pe_int (nomark _)) (pe_call (ok__law_pair T) (hr.mono (by first | decide | omega)) rfl T.m__law_pair T.F__law_pair.kp T.b__law_pair .nil passN (pa_cons (pv 1) (pa_cons pe_int pa_nil))) (pe_call (ok__law_great_pair T) (hr.mono (by first | decide | omega)) rfl T.m__law_great_pair T.F__law_great_pair.kp T.b__law_great_pair .nil passN (pa_cons (pv 1) pa_nil))) (pg_tup (by rfl) (pgs_cons (pg_name (i := 4) sc_law.nd rfl (by first | exact Or.inl rfl | exact Or.inr rfl)) (pgs_cons (pg_name (i := 5) sc_law.nd rfl (by first | exact Or.inl rfl | exact Or.inr rfl)) pgs_nil))))
    (pss_cons (ps_if (pt_not (pt_val (pe_call (ok__law_pair_so T) (hr.mono (by first | decide | omega)) rfl T.m__law_pair_so T.F__law_pair_so.kp T.b__law_pair_so .nil passN (pa_cons (pv 4) (pa_cons (pv 5) pa_nil))))) (pss_one (ps_ret pe_bl)) pss_nil)
    (pss_one (ps_for (passes_of rfl) rfl (pi_tup (pe_tup (pa_cons (pv 5) (pa_cons (pe_op op_sub (pv 5) (pv 4)) pa_nil)))) (pg_name (i := 6) sc_law.nd rfl (by first | exact Or.inl rfl | exact Or.inr rfl)) (pss_one (ps_if (PW.pt (pw_and (pt_cmpR (op_eqD hr.units) (pe_op op_mod (pe_callTy call_int1 (by rfl) T.z_int (by decide +kernel) (pa_cons (pe_op op_add (pv 4) (pv 6)) pa_nil)) pe_int) pe_int (nomark _)) (pw_and1 (pt_not (pt_val (pe_call (ok__law_even_so T) (hr.mono (by first | decide | omega)) rfl T.m__law_even_so T.F__law_even_so.kp T.b__law_even_so .nil passN (pa_cons (pv 4) (pa_cons (pv 6) pa_nil)))))))) (pss_one (ps_ret pe_bl)) pss_nil)))))))))
    (pss_cons (ps_set (i := 7) sc_law.nd rfl (by first | exact Or.inl rfl | exact Or.inr rfl) (pe_call (ok__law_pick T) (hr.mono (by first | decide | omega)) rfl T.m__law_pick T.F__law_pick.kp T.b__law_pick .nil passN (pa_cons (pv 1) (pa_cons (pe_lst (pa_cons (pe_tup (pa_cons pe_int (pa_cons pe_int pa_nil))) (pa_cons (pe_tup (pa_cons pe_int (pa_cons pe_int pa_nil))) (pa_cons (pe_tup (pa_cons (pe_un un_neg pe_int) (pa_cons pe_int pa_nil))) (pa_cons (pe_tup (pa_cons pe_int (pa_cons pe_int pa_nil))) (pa_cons (pe_tup (pa_cons pe_int (pa_cons pe_int pa_nil))) (pa_cons (pe_tup (pa_cons pe_int (pa_cons pe_int pa_nil))) (pa_cons (pe_tup (pa_cons pe_int (pa_cons pe_int pa_nil))) (pa_cons (pe_tup (pa_cons pe_int (pa_cons (pe_un un_neg pe_int) pa_nil))) (pa_cons (pe_tup (pa_cons (pe_op op_add (pe_op op_pow pe_int pe_int) pe_int) (pa_cons pe_int pa_nil))) (pa_cons (pe_tup (pa_cons pe_non (pa_cons pe_int pa_nil))) (pa_cons (pe_tup (pa_cons pe_int (pa_cons pe_non pa_nil))) (pa_cons (pe_tup (pa_cons pe_bl (pa_cons pe_int pa_nil))) (pa_cons (pe_tup (pa_cons pe_int (pa_cons pe_bl pa_nil))) (pa_cons (pe_tup (pa_cons pe_str (pa_cons pe_int pa_nil))) (pa_cons (pe_tup (pa_cons pe_int (pa_cons (pe_tup (pa_cons pe_int pa_nil)) pa_nil))) (pa_cons (pe_tup (pa_cons (pe_lst pa_nil) (pa_cons (pe_dnewK) pa_nil))) pa_nil))))))))))))))))) pa_nil))))
    (pss_cons (ps_if (pt_not (pt_val (pe_call (ok__law_same T) (hr.mono (by first | decide | omega)) rfl T.m__law_same T.F__law_same.kp T.b__law_same .nil passN (pa_cons (pe_call (ok__law_fault T) (hr.mono (by first | decide | omega)) rfl T.m__law_fault T.F__law_fault.kp T.b__law_fault .nil passN (pa_cons (pe_call (ok__law_pick T) (hr.mono (by first | decide | omega)) rfl T.m__law_pick T.F__law_pick.kp T.b__law_pick .nil passN (pa_cons (pv 1) (pa_cons (pe_lst (pa_cons pe_str (pa_cons pe_str (pa_cons pe_str (pa_cons pe_str (pa_cons pe_str pa_nil)))))) pa_nil))) (pa_cons (pe_ix ix_two (pv 7) pe_int (fun _ _ => rfl)) (pa_cons (pe_ix ix_two (pv 7) pe_int (fun _ _ => rfl)) pa_nil)))) (pa_cons (pe_lst (pa_cons pe_int pa_nil)) pa_nil))))) (pss_one (ps_ret pe_bl)) pss_nil)
    (pss_cons (ps_set (i := 7) sc_law.nd rfl (by first | exact Or.inl rfl | exact Or.inr rfl) (pe_call (ok__law_pick T) (hr.mono (by first | decide | omega)) rfl T.m__law_pick T.F__law_pick.kp T.b__law_pick .nil passN (pa_cons (pv 1) (pa_cons (pe_lst (pa_cons (pe_tup (pa_cons pe_int (pa_cons pe_int pa_nil))) (pa_cons (pe_tup (pa_cons pe_int (pa_cons pe_int pa_nil))) (pa_cons (pe_tup (pa_cons pe_int (pa_cons pe_int pa_nil))) (pa_cons (pe_tup (pa_cons pe_int (pa_cons pe_int pa_nil))) (pa_cons (pe_tup (pa_cons pe_int (pa_cons pe_int pa_nil))) (pa_cons (pe_tup (pa_cons pe_int (pa_cons (pe_un un_neg pe_int) pa_nil))) (pa_cons (pe_tup (pa_cons (pe_un un_neg pe_int) (pa_cons pe_int pa_nil))) (pa_cons (pe_tup (pa_cons (pe_op op_add (pe_op op_pow pe_int pe_int) pe_int) (pa_cons pe_int pa_nil))) (pa_cons (pe_tup (pa_cons pe_non (pa_cons pe_int pa_nil))) (pa_cons (pe_tup (pa_cons pe_int (pa_cons pe_non pa_nil))) (pa_cons (pe_tup (pa_cons pe_bl (pa_cons pe_int pa_nil))) (pa_cons (pe_tup (pa_cons pe_int (pa_cons pe_bl pa_nil))) (pa_cons (pe_tup (pa_cons pe_str (pa_cons pe_int pa_nil))) (pa_cons (pe_tup (pa_cons (pe_lst pa_nil) (pa_cons (pe_dnewK) pa_nil))) pa_nil))))))))))))))) pa_nil))))
    (pss_cons (ps_if (pt_not (pt_val (pe_call (ok__law_same T) (hr.mono (by first | decide | omega)) rfl T.m__law_same T.F__law_same.kp T.b__law_same .nil passN (pa_cons (pe_call (ok__law_fault T) (hr.mono (by first | decide | omega)) rfl T.m__law_fault T.F__law_fault.kp T.b__law_fault .nil passN (pa_cons pe_str (pa_cons (pe_ix ix_two (pv 7) pe_int (fun _ _ => rfl)) (pa_cons (pe_ix ix_two (pv 7) pe_int (fun _ _ => rfl)) pa_nil)))) (pa_cons (pe_lst (pa_cons pe_int pa_nil)) pa_nil))))) (pss_one (ps_ret pe_bl)) pss_nil)
    (pss_cons (ps_set (i := 7) sc_law.nd rfl (by first | exact Or.inl rfl | exact Or.inr rfl) (pe_call (ok__law_pick T) (hr.mono (by first | decide | omega)) rfl T.m__law_pick T.F__law_pick.kp T.b__law_pick .nil passN (pa_cons (pv 1) (pa_cons (pe_lst (pa_cons pe_non (pa_cons pe_int (pa_cons pe_str (pa_cons (pe_dnewK) (pa_cons (pe_lst pa_nil) (pa_cons (pe_tup (pa_cons pe_int (pa_cons pe_non pa_nil))) (pa_cons (pe_lst (pa_cons pe_int (pa_cons pe_bl pa_nil))) (pa_cons (pe_tup (pa_cons pe_int (pa_cons (pe_un un_neg pe_int) pa_nil))) (pa_cons (pe_op op_rep (pe_lst (pa_cons pe_int pa_nil)) pe_int) (pa_cons (pe_tup (pa_cons pe_int (pa_cons pe_str pa_nil))) pa_nil))))))))))) pa_nil))))
    (pss_one (ps_ret (pe_call (ok__law_same T) (hr.mono (by first | decide | omega)) rfl T.m__law_same T.F__law_same.kp T.b__law_same .nil passN (pa_cons (pe_call (ok__law_fault T) (hr.mono (by first | decide | omega)) rfl T.m__law_fault T.F__law_fault.kp T.b__law_fault .nil passN (pa_cons pe_str (pa_cons (pv 7) (pa_cons pe_non pa_nil)))) (pa_cons (pe_lst (pa_cons pe_int pa_nil)) pa_nil))))))))))))), ?_⟩
  obtain ⟨G, sa, ns, rfl, b, hS, hn, k⟩ := h
  refine ⟨_, rfl, G, sa, ns, rfl, b, hS, hn, fun a G1 H1 ha w1 p1 => ?_⟩
  refine q_when K (c := false) w1.b (EvB.to (eb_not (eb_val (ed_call (n := 0) (R := rAlways) (d := .bool true) ea_nil rfl ⟨rfl, rfl⟩))) rfl) (fun e => nomatch e) fun _ G2 H2 w2 => ?_
  refine qp_for K (a := a) (fun i σ' G' H' => ∃ y3 y4 y5 y6 y2, σ' = [some (.ref sa), some (.ref a), y2, y3, y4, y5, y6, none, none]) (Wp.refl w2.b) (p1.up w2) (by decide) ⟨_, _, _, _, _, rfl⟩ ?_ ?_
  · rintro i σ' G3 H3 hi w3 p3 ⟨y3, y4, y5, y6, y2, rfl⟩
    refine qp_set K (S := fun d => ∃ ds, d = .tuple ds ∧ RowOk ds) w3.b p3 (EvP.to (ep_tupL (T := RowOk) (EvP.to (ep_lcR1 (P := fun hi => 1 ≤ hi ∧ hi ≤ 12) (S := fun d => ∃ n : Int, d = .int n ∧ n.natAbs ≤ 4) (EpA.to (ep_a1 (ep_opI (A := fun i => i = 1) (B := fun z => 0 ≤ z ∧ z < 12) (S := fun d => ∃ hi : Int, d = .int hi ∧ 1 ≤ hi ∧ hi ≤ 12) (EvP.to ep_int fun d h => ⟨_, h, rfl⟩) (ep_take rfl ep_int (by decide) (by decide)) fun i j G4 H4 hi hj w4 => ⟨.int (i + j), ⟨_, rfl, by omega, by omega⟩, ed_add ed_int ed_int⟩)) fun ds h => ?_) (fun hi h => by omega) (fun _ => rfl) fun hi i hP i0 i1 G4 H4 w4 => ?_) ?_)) fun d h => h) ?_
    · obtain ⟨d, rfl, hi, rfl, h1, h2⟩ := h
      exact ⟨hi, rfl, h1, h2⟩
    · refine ep_opI (A := fun n => n = 1 ∨ n = -1) (B := fun z => 0 ≤ z ∧ z < 5) (EvP.to (ep_pick (d := .list [.int 1, .int 1, .int (-1)]) rfl (ep_ed fun _ _ _ => (ed_lst (ea_cons ed_int (ea_cons ed_int (ea_cons (ed_neg ed_int) ea_nil))))) (.inl rfl) (by simp) (by decide)) fun d h => ?_) (ep_take rfl ep_int (by decide) (by decide)) fun i j G5 H5 hi hj w5 => ⟨.int (i * j), ⟨_, rfl, ?_⟩, ed_mul ed_int ed_int (.inl ⟨by omega, by omega⟩)⟩
      · simp only [List.mem_cons, List.not_mem_nil, or_false] at h
        rcases h with rfl | rfl | rfl <;> exact ⟨_, rfl, by decide⟩
      · rcases hi with rfl | rfl
        · rw [Int.one_mul]; omega
        · rw [Int.neg_mul, Int.one_mul]; omega
    · rintro d ⟨ds, rfl, ⟨hi, hP, hl⟩, hS⟩
      obtain ⟨ns, rfl, hns⟩ := ints_of hS
      rw [len_iL] at hl
      exact ⟨_, rfl, ns, rfl, by omega, by omega, hns⟩
    rintro d v G4 H4 ⟨ds, rfl, ns, rfl, l1, l2, hns⟩ w4 p4 hv
    have e64 : (2 : Nat) ^ 64 = 18446744073709551616 := by decide
    refine qp_when K (c := false) w4.b p4 (EbP.to (bp_not (bp_val (b := true) (ep_call (ep_a2 (S2 := fun _ e => e = tupI (fracOf ns)) (ep_call (S := fun d => d = tupI (fracOf ns)) (ep_a1 (ep_given (T := fun ds => ds = iL ns) rfl (EvP.to (ep_var rfl hv) fun d h => ⟨_, .inr h, rfl⟩))) fun ds h => ?_) fun d _ => ep_ed fun G5 H5 w5 => ed_call (ea_cons (ed_var rfl (dp_up w5.g hv)) ea_nil) rfl ⟨_, _, rfl, .inr rfl, fun n hn => ?_, rfl⟩) fun ds h => ?_))) rfl) (fun e => nomatch e) fun _ G5 H5 w5 p5 => ?_
    · obtain ⟨d, rfl, ds, hd, rfl⟩ := h
      exact ⟨rfl, _, ⟨_, rfl, by simp only [rowOk_of l1 l2 hns hd]⟩, rfl⟩
    · have := hns n hn; omega
    · obtain ⟨d, e, rfl, rfl, rfl⟩ := h
      exact ⟨rfl, _, ⟨_, rfl, rfl, Nat.le_of_ble_eq_true rfl, Nat.le_of_ble_eq_true rfl, rfl⟩, rfl⟩
    refine qp_two K (R := PairOk) w5.b p5 (ep_if (b := decide ((i : Int) < 2)) (bp_eb fun G6 H6 w6 => eb_test (ed_lt (ed_vI rfl) ed_int)) (fun _ => ep_pair rfl (by decide) (by decide)) fun _ => ep_gpair rfl) ?_
    rintro d e x y G6 H6 ⟨p, q, rfl, rfl, a1, a2, a3, a4, a5⟩ w6 p6 hx hy
    cases hx; cases hy
    refine q_when K (c := false) w6.b (EvB.to (eb_not (eb_val (ed_call (d := .bool true) (ea_cons (ed_vI rfl) (ea_cons (ed_vI rfl) ea_nil)) rfl ⟨p, q, rfl, a1, a2, a3, a4, a5, rfl⟩))) rfl) (fun e => nomatch e) fun _ G7 H7 w7 => ?_
    have ww := (((w3.trans w4).trans w5).trans w6).trans w7.wp
    refine s_forT K (ds := [.int q, .int (q - p)]) (fun j σ G5 H5 => ∃ y6, σ = [some (.ref sa), some (.ref a), some (.int i), some v, some (.int p), some (.int q), y6, none, none]) (Wk.refl w7.b) (ed_tup (ea_cons (ed_vI rfl) (ea_cons (ed_sub (ed_vI rfl) (ed_vI rfl)) ea_nil))) (fun _ _ _ => ⟨_, rfl⟩) ?_ ?_
    · rintro j d u σ' G8 H8 hj hu w8 e8 ⟨y6, rfl⟩
      obtain ⟨e, rfl, he, hge⟩ : ∃ e : Int, d = .int e ∧ ab e < p ∧ Nat.gcd p.natAbs e.natAbs = 1 := by
        match j, hj with
        | 0, hj => exact ⟨q, (Option.some.inj hj).symm, by unfold ab; split <;> omega, a5⟩
        | 1, hj => exact ⟨q - p, (Option.some.inj hj).symm, by unfold ab; split <;> omega, by rw [gcd_sub_self, a5]⟩
        | j + 2, hj => simp at hj
      cases hu
      refine s_when K (c := false) w8.b (EvB.to (eb_and (b := false) (eb_test (ed_eqI (ed_modP (ed_toint (ed_add (ed_vI rfl) (ed_vI rfl))) ed_int (by decide)) ed_int)) fun c => eb_not (eb_val (ed_call (d := .bool true) (ea_cons (ed_vI rfl) (ea_cons (ed_vI rfl) ea_nil)) rfl ⟨p, e, rfl, by omega, a2, he, by simpa using c, hge, rfl⟩))) (Bool.and_false _)) (fun e => nomatch e) fun _ G9 H9 w9 => ?_
      exact ⟨G9, w8.trans w9, w9.g, _, rfl⟩
    · rintro σ' G8 H8 w8 e8 ⟨y6, rfl⟩
      exact ⟨G8, ww.trans w8.wp, (p6.up w7).up w8, _, _, _, _, _, rfl⟩
  rintro σ' G3 H3 w3 p3 ⟨y3, y4, y5, y6, y2, rfl⟩
  refine qp_set K (S := (· ∈ wrong1)) w3.b p3 (ep_pick (d := .list wrong1) rfl (ep_ed fun _ _ _ => (ed_lst (ea_cons (ed_tup (ea_cons ed_int (ea_cons ed_int ea_nil))) (ea_cons (ed_tup (ea_cons ed_int (ea_cons ed_int ea_nil))) (ea_cons (ed_tup (ea_cons (ed_neg ed_int) (ea_cons ed_int ea_nil))) (ea_cons (ed_tup (ea_cons ed_int (ea_cons ed_int ea_nil))) (ea_cons (ed_tup (ea_cons ed_int (ea_cons ed_int ea_nil))) (ea_cons (ed_tup (ea_cons ed_int (ea_cons ed_int ea_nil))) (ea_cons (ed_tup (ea_cons ed_int (ea_cons ed_int ea_nil))) (ea_cons (ed_tup (ea_cons ed_int (ea_cons (ed_neg ed_int) ea_nil))) (ea_cons (ed_tup (ea_cons (ed_add (ed_pow ed_int ed_int ⟨by decide, by decide, by decide⟩) ed_int) (ea_cons ed_int ea_nil))) (ea_cons (ed_tup (ea_cons ed_non (ea_cons ed_int ea_nil))) (ea_cons (ed_tup (ea_cons ed_int (ea_cons ed_non ea_nil))) (ea_cons (ed_tup (ea_cons ed_bl (ea_cons ed_int ea_nil))) (ea_cons (ed_tup (ea_cons ed_int (ea_cons ed_bl ea_nil))) (ea_cons (ed_tup (ea_cons ed_str (ea_cons ed_int ea_nil))) (ea_cons (ed_tup (ea_cons ed_int (ea_cons (ed_tup (ea_cons ed_int ea_nil)) ea_nil))) (ea_cons (ed_tup (ea_cons (ed_lst ea_nil) (ea_cons ed_dnew ea_nil))) ea_nil)))))))))))))))))) (.inl rfl) (by simp [wrong1]) (by decide)) ?_
  rintro d v G4 H4 hd w4 p4 hv
  obtain ⟨x, y, rfl, hxy⟩ := wrong1_bad d hd
  refine qp_when K (c := false) w4.b p4 (EbP.to (bp_not (bp_val (b := true) (ep_call (ep_a2 (S2 := fun _ e => e = .list [.int 1]) (ep_call (S := fun d => d = .list [.int 1]) (ep_a3 (S2 := fun _ e => e = x) (S3 := fun _ _ e => e = y) (ep_pick (d := .list words1) rfl (ep_ed fun _ _ _ => (ed_lst (ea_cons ed_str (ea_cons ed_str (ea_cons ed_str (ea_cons ed_str (ea_cons ed_str ea_nil))))))) (.inl rfl) (by simp [words1]) (by decide))
      (fun d _ => ep_ed fun G5 H5 w5 => ed_ix2T (ed_var rfl (dp_up w5.g hv)) ed_int rfl) fun d e _ _ => ep_ed fun G5 H5 w5 => ed_ix2T (ed_var rfl (dp_up w5.g hv)) ed_int rfl) fun ds h => ?_) fun d _ => ep_ed fun G5 H5 w5 => (ed_lst (ea_cons ed_int ea_nil))) fun ds h => ?_))) rfl) (fun e => nomatch e) fun _ G5 H5 w5 p5 => ?_
  · obtain ⟨d, _, _, rfl, hw, rfl, rfl⟩ := h
    obtain ⟨wd, rfl, hf⟩ := words1_so hxy d hw
    exact ⟨rfl, _, ⟨wd, _, _, rfl, by rw [hf]; rfl⟩, rfl⟩
  · obtain ⟨d, e, rfl, rfl, rfl⟩ := h
    exact ⟨rfl, _, ⟨_, rfl, rfl, Nat.le_of_ble_eq_true rfl, Nat.le_of_ble_eq_true rfl, rfl⟩, rfl⟩
  refine qp_set K (S := (· ∈ wrong2)) w5.b p5 (ep_pick (d := .list wrong2) rfl (ep_ed fun _ _ _ => (ed_lst (ea_cons (ed_tup (ea_cons ed_int (ea_cons ed_int ea_nil))) (ea_cons (ed_tup (ea_cons ed_int (ea_cons ed_int ea_nil))) (ea_cons (ed_tup (ea_cons ed_int (ea_cons ed_int ea_nil))) (ea_cons (ed_tup (ea_cons ed_int (ea_cons ed_int ea_nil))) (ea_cons (ed_tup (ea_cons ed_int (ea_cons ed_int ea_nil))) (ea_cons (ed_tup (ea_cons ed_int (ea_cons (ed_neg ed_int) ea_nil))) (ea_cons (ed_tup (ea_cons (ed_neg ed_int) (ea_cons ed_int ea_nil))) (ea_cons (ed_tup (ea_cons (ed_add (ed_pow ed_int ed_int ⟨by decide, by decide, by decide⟩) ed_int) (ea_cons ed_int ea_nil))) (ea_cons (ed_tup (ea_cons ed_non (ea_cons ed_int ea_nil))) (ea_cons (ed_tup (ea_cons ed_int (ea_cons ed_non ea_nil))) (ea_cons (ed_tup (ea_cons ed_bl (ea_cons ed_int ea_nil))) (ea_cons (ed_tup (ea_cons ed_int (ea_cons ed_bl ea_nil))) (ea_cons (ed_tup (ea_cons ed_str (ea_cons ed_int ea_nil))) (ea_cons (ed_tup (ea_cons (ed_lst ea_nil) (ea_cons ed_dnew ea_nil))) ea_nil)))))))))))))))) (.inl rfl) (by simp [wrong2]) (by decide)) ?_
  rintro d v G6 H6 hd w6 p6 hv
  obtain ⟨x, y, rfl, hxy⟩ := wrong2_bad d hd
  refine q_when K (c := false) w6.b (EvB.to (eb_not (eb_val (ed_call (d := .bool true) (ea_cons (ed_call (d := .list [.int 2]) (ea_cons ed_str (ea_cons (ed_ix2T (ed_var rfl hv) ed_int rfl) (ea_cons (ed_ix2T (ed_var rfl hv) ed_int rfl) ea_nil))) rfl ⟨.even, x, y, rfl, by rw [hxy]; rfl⟩) (ea_cons (ed_lst (ea_cons ed_int ea_nil)) ea_nil)) rfl ⟨_, rfl, rfl, Nat.le_of_ble_eq_true rfl, Nat.le_of_ble_eq_true rfl, rfl⟩))) rfl) (fun e => nomatch e) fun _ G7 H7 w7 => ?_
  have p7 := p6.up w7
  refine qp_set K (S := (· ∈ wrong3)) w7.b p7 (ep_pick (d := .list wrong3) rfl (ep_ed fun _ _ _ => (ed_lst (ea_cons ed_non (ea_cons ed_int (ea_cons ed_str (ea_cons ed_dnew (ea_cons (ed_lst ea_nil) (ea_cons (ed_tup (ea_cons ed_int (ea_cons ed_non ea_nil))) (ea_cons (ed_lst (ea_cons ed_int (ea_cons ed_bl ea_nil))) (ea_cons (ed_tup (ea_cons ed_int (ea_cons (ed_neg ed_int) ea_nil))) (ea_cons (ed_repL (ea_cons ed_int ea_nil) (by decide) (by decide) (by decide)) (ea_cons (ed_tup (ea_cons ed_int (ea_cons ed_str ea_nil))) ea_nil)))))))))))) (.inl rfl) (by simp [wrong3]) (by decide)) ?_
  rintro d v G8 H8 hd w8 p8 hv
  have hx := wrong3_bad d hd
  exact s_ret K w8.b (ed_call (d := .bool true) (ea_cons (ed_call (d := .list [.int 0]) (ea_cons ed_str (ea_cons (ed_var rfl hv) (ea_cons ed_non ea_nil))) rfl ⟨.row, d, .none, rfl, by rw [hx]; rfl⟩) (ea_cons (ed_lst (ea_cons ed_int ea_nil)) ea_nil)) rfl ⟨_, rfl, rfl, Nat.le_of_ble_eq_true rfl, Nat.le_of_ble_eq_true rfl, rfl⟩) fun v G9 H9 w9 hv => by
    cases hv
    exact k H9
end
end K63
namespace K63
open PySem PySem.Spec PyProof.Rows L2 L3 TF
theorem all_mk {l : PySem.W.OpenLaw} {w : World} {K : Fg} {h : Heap} {mg : Str → Option Value} {fa f_is_whole f_is_row f_told_row f_check_fraction f_check_signed f_fraction_of f_regular_of f_regular_row f_even_row f_mirror_fraction f_inverse_of f_inverse_fraction f_is_own_mirror f_least_crossings f__law_pool f__law_take f__law_pick f__law_is_integer f__law_same f__law_below f__law_common f__law_given f__law_fraction f__law_regular f__law_even f__law_pair f__law_fault f__law_great_pair f__law_pair_so f__law_even_so f__law_always f_law C_KnotError C_BadRow C_BadFraction C_BadSignedFraction C_NoRegularRow C_TooLongRow : Addr} (X : K.In h) (G : h.Ns mainGlobals mg) (hfa : mg "law" = some (.ref fa))
    {od_is_whole od_is_row od_told_row od_check_fraction od_check_signed od_fraction_of od_regular_of od_regular_row od_even_row od_mirror_fraction od_inverse_of od_inverse_fraction od_is_own_mirror od_least_crossings od__law_pool od__law_take od__law_pick od__law_is_integer od__law_same od__law_below od__law_common od__law_given od__law_fraction od__law_regular od__law_even od__law_pair od__law_fault od__law_great_pair od__law_pair_so od__law_even_so od__law_always od_law an_is_whole an_is_row an_told_row an_check_fraction an_check_signed an_fraction_of an_regular_of an_regular_row an_even_row an_mirror_fraction an_inverse_of an_inverse_fraction an_is_own_mirror an_least_crossings an__law_pool an__law_take an__law_pick an__law_is_integer an__law_same an__law_below an__law_common an__law_given an__law_fraction an__law_regular an__law_even an__law_pair an__law_fault an__law_great_pair an__law_pair_so an__law_even_so an__law_always an_law : Option Addr} {sl_is_whole sl_is_row sl_told_row sl_check_fraction sl_check_signed sl_fraction_of sl_regular_of sl_regular_row sl_even_row sl_mirror_fraction sl_inverse_of sl_inverse_fraction sl_is_own_mirror sl_least_crossings sl__law_pool sl__law_take sl__law_pick sl__law_is_integer sl__law_same sl__law_below sl__law_common sl__law_given sl__law_fraction sl__law_regular sl__law_even sl__law_pair sl__law_fault sl__law_great_pair sl__law_pair_so sl__law_even_so sl__law_always sl_law : Array (Option Value)} {oc_is_whole oc_is_row oc_told_row oc_check_fraction oc_check_signed oc_fraction_of oc_regular_of oc_regular_row oc_even_row oc_mirror_fraction oc_inverse_of oc_inverse_fraction oc_is_own_mirror oc_least_crossings oc__law_pool oc__law_take oc__law_pick oc__law_is_integer oc__law_same oc__law_below oc__law_common oc__law_given oc__law_fraction oc__law_regular oc__law_even oc__law_pair oc__law_fault oc__law_great_pair oc__law_pair_so oc__law_even_so oc__law_always oc_law kV_is_whole kV_is_row kV_told_row kV_check_fraction kV_check_signed kV_fraction_of kV_regular_of kV_regular_row kV_even_row kV_mirror_fraction kV_inverse_of kV_inverse_fraction kV_is_own_mirror kV_least_crossings kV__law_pool kV__law_take kV__law_pick kV__law_is_integer kV__law_same kV__law_below kV__law_common kV__law_given kV__law_fraction kV__law_regular kV__law_even kV__law_pair kV__law_fault kV__law_great_pair kV__law_pair_so kV__law_even_so kV__law_always kV_law do_is_whole do_is_row do_told_row do_check_fraction do_check_signed do_fraction_of do_regular_of do_regular_row do_even_row do_mirror_fraction do_inverse_of do_inverse_fraction do_is_own_mirror do_least_crossings do__law_pool do__law_take do__law_pick do__law_is_integer do__law_same do__law_below do__law_common do__law_given do__law_fraction do__law_regular do__law_even do__law_pair do__law_fault do__law_great_pair do__law_pair_so do__law_even_so do__law_always do_law pm_is_whole pm_is_row pm_told_row pm_check_fraction pm_check_signed pm_fraction_of pm_regular_of pm_regular_row pm_even_row pm_mirror_fraction pm_inverse_of pm_inverse_fraction pm_is_own_mirror pm_least_crossings pm__law_pool pm__law_take pm__law_pick pm__law_is_integer pm__law_same pm__law_below pm__law_common pm__law_given pm__law_fraction pm__law_regular pm__law_even pm__law_pair pm__law_fault pm__law_great_pair pm__law_pair_so pm__law_even_so pm__law_always pm_law cd_is_whole cd_is_row cd_told_row cd_check_fraction cd_check_signed cd_fraction_of cd_regular_of cd_regular_row cd_even_row cd_mirror_fraction cd_inverse_of cd_inverse_fraction cd_is_own_mirror cd_least_crossings cd__law_pool cd__law_take cd__law_pick cd__law_is_integer cd__law_same cd__law_below cd__law_common cd__law_given cd__law_fraction cd__law_regular cd__law_even cd__law_pair cd__law_fault cd__law_great_pair cd__law_pair_so cd__law_even_so cd__law_always cd_law ct_is_whole ct_is_row ct_told_row ct_check_fraction ct_check_signed ct_fraction_of ct_regular_of ct_regular_row ct_even_row ct_mirror_fraction ct_inverse_of ct_inverse_fraction ct_is_own_mirror ct_least_crossings ct__law_pool ct__law_take ct__law_pick ct__law_is_integer ct__law_same ct__law_below ct__law_common ct__law_given ct__law_fraction ct__law_regular ct__law_even ct__law_pair ct__law_fault ct__law_great_pair ct__law_pair_so ct__law_even_so ct__law_always ct_law : Value} {t_MOST_ROW t_MOST_FRACTION t_MOST_EVEN : Tok}
    (a_is_whole : PySem.W.nsIn K mainGlobals "is_whole" = some (some (.ref f_is_whole)))
    (a_is_row : PySem.W.nsIn K mainGlobals "is_row" = some (some (.ref f_is_row)))
    (a_told_row : PySem.W.nsIn K mainGlobals "told_row" = some (some (.ref f_told_row)))
    (a_check_fraction : PySem.W.nsIn K mainGlobals "check_fraction" = some (some (.ref f_check_fraction)))
    (a_check_signed : PySem.W.nsIn K mainGlobals "check_signed" = some (some (.ref f_check_signed)))
    (a_fraction_of : PySem.W.nsIn K mainGlobals "fraction_of" = some (some (.ref f_fraction_of)))
    (a_regular_of : PySem.W.nsIn K mainGlobals "regular_of" = some (some (.ref f_regular_of)))
    (a_regular_row : PySem.W.nsIn K mainGlobals "regular_row" = some (some (.ref f_regular_row)))
    (a_even_row : PySem.W.nsIn K mainGlobals "even_row" = some (some (.ref f_even_row)))
    (a_mirror_fraction : PySem.W.nsIn K mainGlobals "mirror_fraction" = some (some (.ref f_mirror_fraction)))
    (a_inverse_of : PySem.W.nsIn K mainGlobals "inverse_of" = some (some (.ref f_inverse_of)))
    (a_inverse_fraction : PySem.W.nsIn K mainGlobals "inverse_fraction" = some (some (.ref f_inverse_fraction)))
    (a_is_own_mirror : PySem.W.nsIn K mainGlobals "is_own_mirror" = some (some (.ref f_is_own_mirror)))
    (a_least_crossings : PySem.W.nsIn K mainGlobals "least_crossings" = some (some (.ref f_least_crossings)))
    (a__law_pool : PySem.W.nsIn K mainGlobals "_law_pool" = some (some (.ref f__law_pool)))
    (a__law_take : PySem.W.nsIn K mainGlobals "_law_take" = some (some (.ref f__law_take)))
    (a__law_pick : PySem.W.nsIn K mainGlobals "_law_pick" = some (some (.ref f__law_pick)))
    (a__law_is_integer : PySem.W.nsIn K mainGlobals "_law_is_integer" = some (some (.ref f__law_is_integer)))
    (a__law_same : PySem.W.nsIn K mainGlobals "_law_same" = some (some (.ref f__law_same)))
    (a__law_below : PySem.W.nsIn K mainGlobals "_law_below" = some (some (.ref f__law_below)))
    (a__law_common : PySem.W.nsIn K mainGlobals "_law_common" = some (some (.ref f__law_common)))
    (a__law_given : PySem.W.nsIn K mainGlobals "_law_given" = some (some (.ref f__law_given)))
    (a__law_fraction : PySem.W.nsIn K mainGlobals "_law_fraction" = some (some (.ref f__law_fraction)))
    (a__law_regular : PySem.W.nsIn K mainGlobals "_law_regular" = some (some (.ref f__law_regular)))
    (a__law_even : PySem.W.nsIn K mainGlobals "_law_even" = some (some (.ref f__law_even)))
    (a__law_pair : PySem.W.nsIn K mainGlobals "_law_pair" = some (some (.ref f__law_pair)))
    (a__law_fault : PySem.W.nsIn K mainGlobals "_law_fault" = some (some (.ref f__law_fault)))
    (a__law_great_pair : PySem.W.nsIn K mainGlobals "_law_great_pair" = some (some (.ref f__law_great_pair)))
    (a__law_pair_so : PySem.W.nsIn K mainGlobals "_law_pair_so" = some (some (.ref f__law_pair_so)))
    (a__law_even_so : PySem.W.nsIn K mainGlobals "_law_even_so" = some (some (.ref f__law_even_so)))
    (a__law_always : PySem.W.nsIn K mainGlobals "_law_always" = some (some (.ref f__law_always)))
    (a_law : PySem.W.nsIn K mainGlobals "law" = some (some (.ref f_law)))
    (a_KnotError : PySem.W.nsIn K mainGlobals "KnotError" = some (some (.ref C_KnotError)))
    (a_BadRow : PySem.W.nsIn K mainGlobals "BadRow" = some (some (.ref C_BadRow)))
    (a_BadFraction : PySem.W.nsIn K mainGlobals "BadFraction" = some (some (.ref C_BadFraction)))
    (a_BadSignedFraction : PySem.W.nsIn K mainGlobals "BadSignedFraction" = some (some (.ref C_BadSignedFraction)))
    (a_NoRegularRow : PySem.W.nsIn K mainGlobals "NoRegularRow" = some (some (.ref C_NoRegularRow)))
    (a_TooLongRow : PySem.W.nsIn K mainGlobals "TooLongRow" = some (some (.ref C_TooLongRow)))
    (a_MOST_ROW : PySem.W.nsIn K mainGlobals "MOST_ROW" = some (some (.int (60) t_MOST_ROW)))
    (a_MOST_FRACTION : PySem.W.nsIn K mainGlobals "MOST_FRACTION" = some (some (.int (1000000000) t_MOST_FRACTION)))
    (a_MOST_EVEN : PySem.W.nsIn K mainGlobals "MOST_EVEN" = some (some (.int (200) t_MOST_EVEN)))
    (a_gcd : PySem.W.nsIn K mainGlobals "gcd" = some (some (.builtin "math.gcd")))
    (l_is_whole : K.lookup f_is_whole = some ⟨oc_is_whole, od_is_whole, .func (PySem.W.fnOf "is_whole" "is_whole" (defArgs s_is_whole) (defBody s_is_whole) (defScope s_is_whole) .none kV_is_whole do_is_whole pm_is_whole an_is_whole cd_is_whole ct_is_whole), sl_is_whole⟩)
    (c_is_whole : PySem.W.codeIn K cd_is_whole "is_whole" = true)
    (k_is_whole : PySem.W.keepIn K (.ref f_is_whole) = true)
    (l_is_row : K.lookup f_is_row = some ⟨oc_is_row, od_is_row, .func (PySem.W.fnOf "is_row" "is_row" (defArgs s_is_row) (defBody s_is_row) (defScope s_is_row) .none kV_is_row do_is_row pm_is_row an_is_row cd_is_row ct_is_row), sl_is_row⟩)
    (c_is_row : PySem.W.codeIn K cd_is_row "is_row" = true)
    (k_is_row : PySem.W.keepIn K (.ref f_is_row) = true)
    (l_told_row : K.lookup f_told_row = some ⟨oc_told_row, od_told_row, .func (PySem.W.fnOf "told_row" "told_row" (defArgs s_told_row) (defBody s_told_row) (defScope s_told_row) .none kV_told_row do_told_row pm_told_row an_told_row cd_told_row ct_told_row), sl_told_row⟩)
    (c_told_row : PySem.W.codeIn K cd_told_row "told_row" = true)
    (k_told_row : PySem.W.keepIn K (.ref f_told_row) = true)
    (l_check_fraction : K.lookup f_check_fraction = some ⟨oc_check_fraction, od_check_fraction, .func (PySem.W.fnOf "check_fraction" "check_fraction" (defArgs s_check_fraction) (defBody s_check_fraction) (defScope s_check_fraction) .none kV_check_fraction do_check_fraction pm_check_fraction an_check_fraction cd_check_fraction ct_check_fraction), sl_check_fraction⟩)
    (c_check_fraction : PySem.W.codeIn K cd_check_fraction "check_fraction" = true)
    (k_check_fraction : PySem.W.keepIn K (.ref f_check_fraction) = true)
    (l_check_signed : K.lookup f_check_signed = some ⟨oc_check_signed, od_check_signed, .func (PySem.W.fnOf "check_signed" "check_signed" (defArgs s_check_signed) (defBody s_check_signed) (defScope s_check_signed) .none kV_check_signed do_check_signed pm_check_signed an_check_signed cd_check_signed ct_check_signed), sl_check_signed⟩)
    (c_check_signed : PySem.W.codeIn K cd_check_signed "check_signed" = true)
    (k_check_signed : PySem.W.keepIn K (.ref f_check_signed) = true)
    (l_fraction_of : K.lookup f_fraction_of = some ⟨oc_fraction_of, od_fraction_of, .func (PySem.W.fnOf "fraction_of" "fraction_of" (defArgs s_fraction_of) (defBody s_fraction_of) (defScope s_fraction_of) .none kV_fraction_of do_fraction_of pm_fraction_of an_fraction_of cd_fraction_of ct_fraction_of), sl_fraction_of⟩)
    (c_fraction_of : PySem.W.codeIn K cd_fraction_of "fraction_of" = true)
    (k_fraction_of : PySem.W.keepIn K (.ref f_fraction_of) = true)
    (l_regular_of : K.lookup f_regular_of = some ⟨oc_regular_of, od_regular_of, .func (PySem.W.fnOf "regular_of" "regular_of" (defArgs s_regular_of) (defBody s_regular_of) (defScope s_regular_of) .none kV_regular_of do_regular_of pm_regular_of an_regular_of cd_regular_of ct_regular_of), sl_regular_of⟩)
    (c_regular_of : PySem.W.codeIn K cd_regular_of "regular_of" = true)
    (k_regular_of : PySem.W.keepIn K (.ref f_regular_of) = true)
    (l_regular_row : K.lookup f_regular_row = some ⟨oc_regular_row, od_regular_row, .func (PySem.W.fnOf "regular_row" "regular_row" (defArgs s_regular_row) (defBody s_regular_row) (defScope s_regular_row) .none kV_regular_row do_regular_row pm_regular_row an_regular_row cd_regular_row ct_regular_row), sl_regular_row⟩)
    (c_regular_row : PySem.W.codeIn K cd_regular_row "regular_row" = true)
    (k_regular_row : PySem.W.keepIn K (.ref f_regular_row) = true)
    (l_even_row : K.lookup f_even_row = some ⟨oc_even_row, od_even_row, .func (PySem.W.fnOf "even_row" "even_row" (defArgs s_even_row) (defBody s_even_row) (defScope s_even_row) .none kV_even_row do_even_row pm_even_row an_even_row cd_even_row ct_even_row), sl_even_row⟩)
    (c_even_row : PySem.W.codeIn K cd_even_row "even_row" = true)
    (k_even_row : PySem.W.keepIn K (.ref f_even_row) = true)
    (l_mirror_fraction : K.lookup f_mirror_fraction = some ⟨oc_mirror_fraction, od_mirror_fraction, .func (PySem.W.fnOf "mirror_fraction" "mirror_fraction" (defArgs s_mirror_fraction) (defBody s_mirror_fraction) (defScope s_mirror_fraction) .none kV_mirror_fraction do_mirror_fraction pm_mirror_fraction an_mirror_fraction cd_mirror_fraction ct_mirror_fraction), sl_mirror_fraction⟩)
    (c_mirror_fraction : PySem.W.codeIn K cd_mirror_fraction "mirror_fraction" = true)
    (k_mirror_fraction : PySem.W.keepIn K (.ref f_mirror_fraction) = true)
    (l_inverse_of : K.lookup f_inverse_of = some ⟨oc_inverse_of, od_inverse_of, .func (PySem.W.fnOf "inverse_of" "inverse_of" (defArgs s_inverse_of) (defBody s_inverse_of) (defScope s_inverse_of) .none kV_inverse_of do_inverse_of pm_inverse_of an_inverse_of cd_inverse_of ct_inverse_of), sl_inverse_of⟩)
    (c_inverse_of : PySem.W.codeIn K cd_inverse_of "inverse_of" = true)
    (k_inverse_of : PySem.W.keepIn K (.ref f_inverse_of) = true)
    (l_inverse_fraction : K.lookup f_inverse_fraction = some ⟨oc_inverse_fraction, od_inverse_fraction, .func (PySem.W.fnOf "inverse_fraction" "inverse_fraction" (defArgs s_inverse_fraction) (defBody s_inverse_fraction) (defScope s_inverse_fraction) .none kV_inverse_fraction do_inverse_fraction pm_inverse_fraction an_inverse_fraction cd_inverse_fraction ct_inverse_fraction), sl_inverse_fraction⟩)
    (c_inverse_fraction : PySem.W.codeIn K cd_inverse_fraction "inverse_fraction" = true)
    (k_inverse_fraction : PySem.W.keepIn K (.ref f_inverse_fraction) = true)
    (l_is_own_mirror : K.lookup f_is_own_mirror = some ⟨oc_is_own_mirror, od_is_own_mirror, .func (PySem.W.fnOf "is_own_mirror" "is_own_mirror" (defArgs s_is_own_mirror) (defBody s_is_own_mirror) (defScope s_is_own_mirror) .none kV_is_own_mirror do_is_own_mirror pm_is_own_mirror an_is_own_mirror cd_is_own_mirror ct_is_own_mirror), sl_is_own_mirror⟩)
    (c_is_own_mirror : PySem.W.codeIn K cd_is_own_mirror "is_own_mirror" = true)
    (k_is_own_mirror : PySem.W.keepIn K (.ref f_is_own_mirror) = true)
    (l_least_crossings : K.lookup f_least_crossings = some ⟨oc_least_crossings, od_least_crossings, .func (PySem.W.fnOf "least_crossings" "least_crossings" (defArgs s_least_crossings) (defBody s_least_crossings) (defScope s_least_crossings) .none kV_least_crossings do_least_crossings pm_least_crossings an_least_crossings cd_least_crossings ct_least_crossings), sl_least_crossings⟩)
    (c_least_crossings : PySem.W.codeIn K cd_least_crossings "least_crossings" = true)
    (k_least_crossings : PySem.W.keepIn K (.ref f_least_crossings) = true)
    (l__law_pool : K.lookup f__law_pool = some ⟨oc__law_pool, od__law_pool, .func (PySem.W.fnOf "_law_pool" "_law_pool" (defArgs s__law_pool) (defBody s__law_pool) (defScope s__law_pool) .none kV__law_pool do__law_pool pm__law_pool an__law_pool cd__law_pool ct__law_pool), sl__law_pool⟩)
    (c__law_pool : PySem.W.codeIn K cd__law_pool "_law_pool" = true)
    (k__law_pool : PySem.W.keepIn K (.ref f__law_pool) = true)
    (l__law_take : K.lookup f__law_take = some ⟨oc__law_take, od__law_take, .func (PySem.W.fnOf "_law_take" "_law_take" (defArgs s__law_take) (defBody s__law_take) (defScope s__law_take) .none kV__law_take do__law_take pm__law_take an__law_take cd__law_take ct__law_take), sl__law_take⟩)
    (c__law_take : PySem.W.codeIn K cd__law_take "_law_take" = true)
    (k__law_take : PySem.W.keepIn K (.ref f__law_take) = true)
    (l__law_pick : K.lookup f__law_pick = some ⟨oc__law_pick, od__law_pick, .func (PySem.W.fnOf "_law_pick" "_law_pick" (defArgs s__law_pick) (defBody s__law_pick) (defScope s__law_pick) .none kV__law_pick do__law_pick pm__law_pick an__law_pick cd__law_pick ct__law_pick), sl__law_pick⟩)
    (c__law_pick : PySem.W.codeIn K cd__law_pick "_law_pick" = true)
    (k__law_pick : PySem.W.keepIn K (.ref f__law_pick) = true)
    (l__law_is_integer : K.lookup f__law_is_integer = some ⟨oc__law_is_integer, od__law_is_integer, .func (PySem.W.fnOf "_law_is_integer" "_law_is_integer" (defArgs s__law_is_integer) (defBody s__law_is_integer) (defScope s__law_is_integer) .none kV__law_is_integer do__law_is_integer pm__law_is_integer an__law_is_integer cd__law_is_integer ct__law_is_integer), sl__law_is_integer⟩)
    (c__law_is_integer : PySem.W.codeIn K cd__law_is_integer "_law_is_integer" = true)
    (k__law_is_integer : PySem.W.keepIn K (.ref f__law_is_integer) = true)
    (l__law_same : K.lookup f__law_same = some ⟨oc__law_same, od__law_same, .func (PySem.W.fnOf "_law_same" "_law_same" (defArgs s__law_same) (defBody s__law_same) (defScope s__law_same) .none kV__law_same do__law_same pm__law_same an__law_same cd__law_same ct__law_same), sl__law_same⟩)
    (c__law_same : PySem.W.codeIn K cd__law_same "_law_same" = true)
    (k__law_same : PySem.W.keepIn K (.ref f__law_same) = true)
    (l__law_below : K.lookup f__law_below = some ⟨oc__law_below, od__law_below, .func (PySem.W.fnOf "_law_below" "_law_below" (defArgs s__law_below) (defBody s__law_below) (defScope s__law_below) .none kV__law_below do__law_below pm__law_below an__law_below cd__law_below ct__law_below), sl__law_below⟩)
    (c__law_below : PySem.W.codeIn K cd__law_below "_law_below" = true)
    (k__law_below : PySem.W.keepIn K (.ref f__law_below) = true)
    (l__law_common : K.lookup f__law_common = some ⟨oc__law_common, od__law_common, .func (PySem.W.fnOf "_law_common" "_law_common" (defArgs s__law_common) (defBody s__law_common) (defScope s__law_common) .none kV__law_common do__law_common pm__law_common an__law_common cd__law_common ct__law_common), sl__law_common⟩)
    (c__law_common : PySem.W.codeIn K cd__law_common "_law_common" = true)
    (k__law_common : PySem.W.keepIn K (.ref f__law_common) = true)
    (l__law_given : K.lookup f__law_given = some ⟨oc__law_given, od__law_given, .func (PySem.W.fnOf "_law_given" "_law_given" (defArgs s__law_given) (defBody s__law_given) (defScope s__law_given) .none kV__law_given do__law_given pm__law_given an__law_given cd__law_given ct__law_given), sl__law_given⟩)
    (c__law_given : PySem.W.codeIn K cd__law_given "_law_given" = true)
    (k__law_given : PySem.W.keepIn K (.ref f__law_given) = true)
    (l__law_fraction : K.lookup f__law_fraction = some ⟨oc__law_fraction, od__law_fraction, .func (PySem.W.fnOf "_law_fraction" "_law_fraction" (defArgs s__law_fraction) (defBody s__law_fraction) (defScope s__law_fraction) .none kV__law_fraction do__law_fraction pm__law_fraction an__law_fraction cd__law_fraction ct__law_fraction), sl__law_fraction⟩)
    (c__law_fraction : PySem.W.codeIn K cd__law_fraction "_law_fraction" = true)
    (k__law_fraction : PySem.W.keepIn K (.ref f__law_fraction) = true)
    (l__law_regular : K.lookup f__law_regular = some ⟨oc__law_regular, od__law_regular, .func (PySem.W.fnOf "_law_regular" "_law_regular" (defArgs s__law_regular) (defBody s__law_regular) (defScope s__law_regular) .none kV__law_regular do__law_regular pm__law_regular an__law_regular cd__law_regular ct__law_regular), sl__law_regular⟩)
    (c__law_regular : PySem.W.codeIn K cd__law_regular "_law_regular" = true)
    (k__law_regular : PySem.W.keepIn K (.ref f__law_regular) = true)
    (l__law_even : K.lookup f__law_even = some ⟨oc__law_even, od__law_even, .func (PySem.W.fnOf "_law_even" "_law_even" (defArgs s__law_even) (defBody s__law_even) (defScope s__law_even) .none kV__law_even do__law_even pm__law_even an__law_even cd__law_even ct__law_even), sl__law_even⟩)
    (c__law_even : PySem.W.codeIn K cd__law_even "_law_even" = true)
    (k__law_even : PySem.W.keepIn K (.ref f__law_even) = true)
    (l__law_pair : K.lookup f__law_pair = some ⟨oc__law_pair, od__law_pair, .func (PySem.W.fnOf "_law_pair" "_law_pair" (defArgs s__law_pair) (defBody s__law_pair) (defScope s__law_pair) .none kV__law_pair do__law_pair pm__law_pair an__law_pair cd__law_pair ct__law_pair), sl__law_pair⟩)
    (c__law_pair : PySem.W.codeIn K cd__law_pair "_law_pair" = true)
    (k__law_pair : PySem.W.keepIn K (.ref f__law_pair) = true)
    (l__law_fault : K.lookup f__law_fault = some ⟨oc__law_fault, od__law_fault, .func (PySem.W.fnOf "_law_fault" "_law_fault" (defArgs s__law_fault) (defBody s__law_fault) (defScope s__law_fault) .none kV__law_fault do__law_fault pm__law_fault an__law_fault cd__law_fault ct__law_fault), sl__law_fault⟩)
    (c__law_fault : PySem.W.codeIn K cd__law_fault "_law_fault" = true)
    (k__law_fault : PySem.W.keepIn K (.ref f__law_fault) = true)
    (l__law_great_pair : K.lookup f__law_great_pair = some ⟨oc__law_great_pair, od__law_great_pair, .func (PySem.W.fnOf "_law_great_pair" "_law_great_pair" (defArgs s__law_great_pair) (defBody s__law_great_pair) (defScope s__law_great_pair) .none kV__law_great_pair do__law_great_pair pm__law_great_pair an__law_great_pair cd__law_great_pair ct__law_great_pair), sl__law_great_pair⟩)
    (c__law_great_pair : PySem.W.codeIn K cd__law_great_pair "_law_great_pair" = true)
    (k__law_great_pair : PySem.W.keepIn K (.ref f__law_great_pair) = true)
    (l__law_pair_so : K.lookup f__law_pair_so = some ⟨oc__law_pair_so, od__law_pair_so, .func (PySem.W.fnOf "_law_pair_so" "_law_pair_so" (defArgs s__law_pair_so) (defBody s__law_pair_so) (defScope s__law_pair_so) .none kV__law_pair_so do__law_pair_so pm__law_pair_so an__law_pair_so cd__law_pair_so ct__law_pair_so), sl__law_pair_so⟩)
    (c__law_pair_so : PySem.W.codeIn K cd__law_pair_so "_law_pair_so" = true)
    (k__law_pair_so : PySem.W.keepIn K (.ref f__law_pair_so) = true)
    (l__law_even_so : K.lookup f__law_even_so = some ⟨oc__law_even_so, od__law_even_so, .func (PySem.W.fnOf "_law_even_so" "_law_even_so" (defArgs s__law_even_so) (defBody s__law_even_so) (defScope s__law_even_so) .none kV__law_even_so do__law_even_so pm__law_even_so an__law_even_so cd__law_even_so ct__law_even_so), sl__law_even_so⟩)
    (c__law_even_so : PySem.W.codeIn K cd__law_even_so "_law_even_so" = true)
    (k__law_even_so : PySem.W.keepIn K (.ref f__law_even_so) = true)
    (l__law_always : K.lookup f__law_always = some ⟨oc__law_always, od__law_always, .func (PySem.W.fnOf "_law_always" "_law_always" (defArgs s__law_always) (defBody s__law_always) (defScope s__law_always) .none kV__law_always do__law_always pm__law_always an__law_always cd__law_always ct__law_always), sl__law_always⟩)
    (c__law_always : PySem.W.codeIn K cd__law_always "_law_always" = true)
    (k__law_always : PySem.W.keepIn K (.ref f__law_always) = true)
    (l_law : K.lookup f_law = some ⟨oc_law, od_law, .func (PySem.W.fnOf "law" "law" (defArgs s_law) (defBody s_law) (defScope s_law) .none kV_law do_law pm_law an_law cd_law ct_law), sl_law⟩)
    (c_law : PySem.W.codeIn K cd_law "law" = true)
    (k_law : PySem.W.keepIn K (.ref f_law) = true)
    (x_KnotError_0 : PySem.W.excIn K C_KnotError [.type "ValueError", .type "Exception", .type "BaseException", .type "object"] "ValueError.__new__" = true)
    (x_KnotError_1 : PySem.W.keepIn K (.ref C_KnotError) = true)
    (x_KnotError_2 : PySem.W.findIn K (.ref C_KnotError) "__getattribute__" = some (some (.builtin "BaseException.__getattribute__")))
    (x_KnotError_3 : PySem.W.findIn K (.ref C_KnotError) "__getattr__" = some none)
    (x_KnotError_4 : PySem.W.subIn K (.ref C_KnotError) (.type "BaseException") = some true)
    (x_KnotError_5 : PySem.W.hasDictIn K C_KnotError = true)
    (x_KnotError_6 : PySem.W.findIn K (.ref C_KnotError) "__class__" = some (some (.builtin "object.__class__")))
    (x_KnotError_7 : PySem.W.specialIn K (.builtin "object.__class__") "__get__" = some (some (.builtin "getset_descriptor.__get__")))
    (x_KnotError_8 : PySem.W.takesIn K (.builtin "object.__class__") = some true)
    (x_KnotError_9 : PySem.W.mroIn K C_KnotError (.type "object") = some true)
    (x_KnotError_10 : PySem.W.typeIn K (.ref C_KnotError) = some (.type "type"))
    (x_BadRow_0 : PySem.W.excIn K C_BadRow [.type "ValueError", .type "Exception", .type "BaseException", .type "object"] "ValueError.__new__" = true)
    (x_BadRow_1 : PySem.W.keepIn K (.ref C_BadRow) = true)
    (x_BadRow_2 : PySem.W.findIn K (.ref C_BadRow) "__getattribute__" = some (some (.builtin "BaseException.__getattribute__")))
    (x_BadRow_3 : PySem.W.findIn K (.ref C_BadRow) "__getattr__" = some none)
    (x_BadRow_4 : PySem.W.subIn K (.ref C_BadRow) (.type "BaseException") = some true)
    (x_BadRow_5 : PySem.W.hasDictIn K C_BadRow = true)
    (x_BadRow_6 : PySem.W.findIn K (.ref C_BadRow) "__class__" = some (some (.builtin "object.__class__")))
    (x_BadRow_7 : PySem.W.specialIn K (.builtin "object.__class__") "__get__" = some (some (.builtin "getset_descriptor.__get__")))
    (x_BadRow_8 : PySem.W.takesIn K (.builtin "object.__class__") = some true)
    (x_BadRow_9 : PySem.W.mroIn K C_BadRow (.type "object") = some true)
    (x_BadRow_10 : PySem.W.typeIn K (.ref C_BadRow) = some (.type "type"))
    (x_BadFraction_0 : PySem.W.excIn K C_BadFraction [.type "ValueError", .type "Exception", .type "BaseException", .type "object"] "ValueError.__new__" = true)
    (x_BadFraction_1 : PySem.W.keepIn K (.ref C_BadFraction) = true)
    (x_BadFraction_2 : PySem.W.findIn K (.ref C_BadFraction) "__getattribute__" = some (some (.builtin "BaseException.__getattribute__")))
    (x_BadFraction_3 : PySem.W.findIn K (.ref C_BadFraction) "__getattr__" = some none)
    (x_BadFraction_4 : PySem.W.subIn K (.ref C_BadFraction) (.type "BaseException") = some true)
    (x_BadFraction_5 : PySem.W.hasDictIn K C_BadFraction = true)
    (x_BadFraction_6 : PySem.W.findIn K (.ref C_BadFraction) "__class__" = some (some (.builtin "object.__class__")))
    (x_BadFraction_7 : PySem.W.specialIn K (.builtin "object.__class__") "__get__" = some (some (.builtin "getset_descriptor.__get__")))
    (x_BadFraction_8 : PySem.W.takesIn K (.builtin "object.__class__") = some true)
    (x_BadFraction_9 : PySem.W.mroIn K C_BadFraction (.type "object") = some true)
    (x_BadFraction_10 : PySem.W.typeIn K (.ref C_BadFraction) = some (.type "type"))
    (x_BadSignedFraction_0 : PySem.W.excIn K C_BadSignedFraction [.type "ValueError", .type "Exception", .type "BaseException", .type "object"] "ValueError.__new__" = true)
    (x_BadSignedFraction_1 : PySem.W.keepIn K (.ref C_BadSignedFraction) = true)
    (x_BadSignedFraction_2 : PySem.W.findIn K (.ref C_BadSignedFraction) "__getattribute__" = some (some (.builtin "BaseException.__getattribute__")))
    (x_BadSignedFraction_3 : PySem.W.findIn K (.ref C_BadSignedFraction) "__getattr__" = some none)
    (x_BadSignedFraction_4 : PySem.W.subIn K (.ref C_BadSignedFraction) (.type "BaseException") = some true)
    (x_BadSignedFraction_5 : PySem.W.hasDictIn K C_BadSignedFraction = true)
    (x_BadSignedFraction_6 : PySem.W.findIn K (.ref C_BadSignedFraction) "__class__" = some (some (.builtin "object.__class__")))
    (x_BadSignedFraction_7 : PySem.W.specialIn K (.builtin "object.__class__") "__get__" = some (some (.builtin "getset_descriptor.__get__")))
    (x_BadSignedFraction_8 : PySem.W.takesIn K (.builtin "object.__class__") = some true)
    (x_BadSignedFraction_9 : PySem.W.mroIn K C_BadSignedFraction (.type "object") = some true)
    (x_BadSignedFraction_10 : PySem.W.typeIn K (.ref C_BadSignedFraction) = some (.type "type"))
    (x_NoRegularRow_0 : PySem.W.excIn K C_NoRegularRow [.type "ValueError", .type "Exception", .type "BaseException", .type "object"] "ValueError.__new__" = true)
    (x_NoRegularRow_1 : PySem.W.keepIn K (.ref C_NoRegularRow) = true)
    (x_NoRegularRow_2 : PySem.W.findIn K (.ref C_NoRegularRow) "__getattribute__" = some (some (.builtin "BaseException.__getattribute__")))
    (x_NoRegularRow_3 : PySem.W.findIn K (.ref C_NoRegularRow) "__getattr__" = some none)
    (x_NoRegularRow_4 : PySem.W.subIn K (.ref C_NoRegularRow) (.type "BaseException") = some true)
    (x_NoRegularRow_5 : PySem.W.hasDictIn K C_NoRegularRow = true)
    (x_NoRegularRow_6 : PySem.W.findIn K (.ref C_NoRegularRow) "__class__" = some (some (.builtin "object.__class__")))
    (x_NoRegularRow_7 : PySem.W.specialIn K (.builtin "object.__class__") "__get__" = some (some (.builtin "getset_descriptor.__get__")))
    (x_NoRegularRow_8 : PySem.W.takesIn K (.builtin "object.__class__") = some true)
    (x_NoRegularRow_9 : PySem.W.mroIn K C_NoRegularRow (.type "object") = some true)
    (x_NoRegularRow_10 : PySem.W.typeIn K (.ref C_NoRegularRow) = some (.type "type"))
    (x_TooLongRow_0 : PySem.W.excIn K C_TooLongRow [.type "ValueError", .type "Exception", .type "BaseException", .type "object"] "ValueError.__new__" = true)
    (x_TooLongRow_1 : PySem.W.keepIn K (.ref C_TooLongRow) = true)
    (x_TooLongRow_2 : PySem.W.findIn K (.ref C_TooLongRow) "__getattribute__" = some (some (.builtin "BaseException.__getattribute__")))
    (x_TooLongRow_3 : PySem.W.findIn K (.ref C_TooLongRow) "__getattr__" = some none)
    (x_TooLongRow_4 : PySem.W.subIn K (.ref C_TooLongRow) (.type "BaseException") = some true)
    (x_TooLongRow_5 : PySem.W.hasDictIn K C_TooLongRow = true)
    (x_TooLongRow_6 : PySem.W.findIn K (.ref C_TooLongRow) "__class__" = some (some (.builtin "object.__class__")))
    (x_TooLongRow_7 : PySem.W.specialIn K (.builtin "object.__class__") "__get__" = some (some (.builtin "getset_descriptor.__get__")))
    (x_TooLongRow_8 : PySem.W.takesIn K (.builtin "object.__class__") = some true)
    (x_TooLongRow_9 : PySem.W.mroIn K C_TooLongRow (.type "object") = some true)
    (x_TooLongRow_10 : PySem.W.typeIn K (.ref C_TooLongRow) = some (.type "type"))
    (pe_BadRow_KnotError : PySem.W.subIn K (.ref C_BadRow) (.ref C_KnotError) = some true)
    (pk_BadRow_BadRow : PySem.W.kitOne K (.ref C_BadRow) (.ref C_BadRow) = some true)
    (pk_BadRow_BadFraction : PySem.W.kitOne K (.ref C_BadRow) (.ref C_BadFraction) = some false)
    (pk_BadRow_BadSignedFraction : PySem.W.kitOne K (.ref C_BadRow) (.ref C_BadSignedFraction) = some false)
    (pk_BadRow_NoRegularRow : PySem.W.kitOne K (.ref C_BadRow) (.ref C_NoRegularRow) = some false)
    (pk_BadRow_TooLongRow : PySem.W.kitOne K (.ref C_BadRow) (.ref C_TooLongRow) = some false)
    (pe_BadFraction_KnotError : PySem.W.subIn K (.ref C_BadFraction) (.ref C_KnotError) = some true)
    (pk_BadFraction_BadRow : PySem.W.kitOne K (.ref C_BadFraction) (.ref C_BadRow) = some false)
    (pk_BadFraction_BadFraction : PySem.W.kitOne K (.ref C_BadFraction) (.ref C_BadFraction) = some true)
    (pk_BadFraction_BadSignedFraction : PySem.W.kitOne K (.ref C_BadFraction) (.ref C_BadSignedFraction) = some false)
    (pk_BadFraction_NoRegularRow : PySem.W.kitOne K (.ref C_BadFraction) (.ref C_NoRegularRow) = some false)
    (pk_BadFraction_TooLongRow : PySem.W.kitOne K (.ref C_BadFraction) (.ref C_TooLongRow) = some false)
    (pe_BadSignedFraction_KnotError : PySem.W.subIn K (.ref C_BadSignedFraction) (.ref C_KnotError) = some true)
    (pk_BadSignedFraction_BadRow : PySem.W.kitOne K (.ref C_BadSignedFraction) (.ref C_BadRow) = some false)
    (pk_BadSignedFraction_BadFraction : PySem.W.kitOne K (.ref C_BadSignedFraction) (.ref C_BadFraction) = some false)
    (pk_BadSignedFraction_BadSignedFraction : PySem.W.kitOne K (.ref C_BadSignedFraction) (.ref C_BadSignedFraction) = some true)
    (pk_BadSignedFraction_NoRegularRow : PySem.W.kitOne K (.ref C_BadSignedFraction) (.ref C_NoRegularRow) = some false)
    (pk_BadSignedFraction_TooLongRow : PySem.W.kitOne K (.ref C_BadSignedFraction) (.ref C_TooLongRow) = some false)
    (pe_NoRegularRow_KnotError : PySem.W.subIn K (.ref C_NoRegularRow) (.ref C_KnotError) = some true)
    (pk_NoRegularRow_BadRow : PySem.W.kitOne K (.ref C_NoRegularRow) (.ref C_BadRow) = some false)
    (pk_NoRegularRow_BadFraction : PySem.W.kitOne K (.ref C_NoRegularRow) (.ref C_BadFraction) = some false)
    (pk_NoRegularRow_BadSignedFraction : PySem.W.kitOne K (.ref C_NoRegularRow) (.ref C_BadSignedFraction) = some false)
    (pk_NoRegularRow_NoRegularRow : PySem.W.kitOne K (.ref C_NoRegularRow) (.ref C_NoRegularRow) = some true)
    (pk_NoRegularRow_TooLongRow : PySem.W.kitOne K (.ref C_NoRegularRow) (.ref C_TooLongRow) = some false)
    (pe_TooLongRow_KnotError : PySem.W.subIn K (.ref C_TooLongRow) (.ref C_KnotError) = some true)
    (pk_TooLongRow_BadRow : PySem.W.kitOne K (.ref C_TooLongRow) (.ref C_BadRow) = some false)
    (pk_TooLongRow_BadFraction : PySem.W.kitOne K (.ref C_TooLongRow) (.ref C_BadFraction) = some false)
    (pk_TooLongRow_BadSignedFraction : PySem.W.kitOne K (.ref C_TooLongRow) (.ref C_BadSignedFraction) = some false)
    (pk_TooLongRow_NoRegularRow : PySem.W.kitOne K (.ref C_TooLongRow) (.ref C_NoRegularRow) = some false)
    (pk_TooLongRow_TooLongRow : PySem.W.kitOne K (.ref C_TooLongRow) (.ref C_TooLongRow) = some true)
    (z_abs : PySem.W.nsIn K mainGlobals "abs" = some none)
    (z_all : PySem.W.nsIn K mainGlobals "all" = some none)
    (z_any : PySem.W.nsIn K mainGlobals "any" = some none)
    (z_bool : PySem.W.nsIn K mainGlobals "bool" = some none)
    (z_int : PySem.W.nsIn K mainGlobals "int" = some none)
    (z_isinstance : PySem.W.nsIn K mainGlobals "isinstance" = some none)
    (z_len : PySem.W.nsIn K mainGlobals "len" = some none)
    (z_list : PySem.W.nsIn K mainGlobals "list" = some none)
    (z_range : PySem.W.nsIn K mainGlobals "range" = some none)
    (z_str : PySem.W.nsIn K mainGlobals "str" = some none)
    (z_sum : PySem.W.nsIn K mainGlobals "sum" = some none)
    (z_tuple : PySem.W.nsIn K mainGlobals "tuple" = some none)
    : ∃ fd : FuncData, (∀ (s : Shared) (v : Value), BindsTo s fd ⟨[v], []⟩ [("script", v)]) ∧ ∀ base : Heap, K.In base → base.Ns mainGlobals mg → FnOk l.prog w K mg base (L2N.CX l.prog w) 12 fa fd ["script"] (spLaw K) := by
  have e := hfa.symm.trans (PySem.W.mg_of X G a_law)
  cases e
  have T : Txt K mg ⟨f_is_whole, PySem.W.fnOf "is_whole" "is_whole" (defArgs s_is_whole) (defBody s_is_whole) (defScope s_is_whole) .none kV_is_whole do_is_whole pm_is_whole an_is_whole cd_is_whole ct_is_whole, f_is_row, PySem.W.fnOf "is_row" "is_row" (defArgs s_is_row) (defBody s_is_row) (defScope s_is_row) .none kV_is_row do_is_row pm_is_row an_is_row cd_is_row ct_is_row, f_told_row, PySem.W.fnOf "told_row" "told_row" (defArgs s_told_row) (defBody s_told_row) (defScope s_told_row) .none kV_told_row do_told_row pm_told_row an_told_row cd_told_row ct_told_row, f_check_fraction, PySem.W.fnOf "check_fraction" "check_fraction" (defArgs s_check_fraction) (defBody s_check_fraction) (defScope s_check_fraction) .none kV_check_fraction do_check_fraction pm_check_fraction an_check_fraction cd_check_fraction ct_check_fraction, f_check_signed, PySem.W.fnOf "check_signed" "check_signed" (defArgs s_check_signed) (defBody s_check_signed) (defScope s_check_signed) .none kV_check_signed do_check_signed pm_check_signed an_check_signed cd_check_signed ct_check_signed, f_fraction_of, PySem.W.fnOf "fraction_of" "fraction_of" (defArgs s_fraction_of) (defBody s_fraction_of) (defScope s_fraction_of) .none kV_fraction_of do_fraction_of pm_fraction_of an_fraction_of cd_fraction_of ct_fraction_of, f_regular_of, PySem.W.fnOf "regular_of" "regular_of" (defArgs s_regular_of) (defBody s_regular_of) (defScope s_regular_of) .none kV_regular_of do_regular_of pm_regular_of an_regular_of cd_regular_of ct_regular_of, f_regular_row, PySem.W.fnOf "regular_row" "regular_row" (defArgs s_regular_row) (defBody s_regular_row) (defScope s_regular_row) .none kV_regular_row do_regular_row pm_regular_row an_regular_row cd_regular_row ct_regular_row, f_even_row, PySem.W.fnOf "even_row" "even_row" (defArgs s_even_row) (defBody s_even_row) (defScope s_even_row) .none kV_even_row do_even_row pm_even_row an_even_row cd_even_row ct_even_row, f_mirror_fraction, PySem.W.fnOf "mirror_fraction" "mirror_fraction" (defArgs s_mirror_fraction) (defBody s_mirror_fraction) (defScope s_mirror_fraction) .none kV_mirror_fraction do_mirror_fraction pm_mirror_fraction an_mirror_fraction cd_mirror_fraction ct_mirror_fraction, f_inverse_of, PySem.W.fnOf "inverse_of" "inverse_of" (defArgs s_inverse_of) (defBody s_inverse_of) (defScope s_inverse_of) .none kV_inverse_of do_inverse_of pm_inverse_of an_inverse_of cd_inverse_of ct_inverse_of, f_inverse_fraction, PySem.W.fnOf "inverse_fraction" "inverse_fraction" (defArgs s_inverse_fraction) (defBody s_inverse_fraction) (defScope s_inverse_fraction) .none kV_inverse_fraction do_inverse_fraction pm_inverse_fraction an_inverse_fraction cd_inverse_fraction ct_inverse_fraction, f_is_own_mirror, PySem.W.fnOf "is_own_mirror" "is_own_mirror" (defArgs s_is_own_mirror) (defBody s_is_own_mirror) (defScope s_is_own_mirror) .none kV_is_own_mirror do_is_own_mirror pm_is_own_mirror an_is_own_mirror cd_is_own_mirror ct_is_own_mirror, f_least_crossings, PySem.W.fnOf "least_crossings" "least_crossings" (defArgs s_least_crossings) (defBody s_least_crossings) (defScope s_least_crossings) .none kV_least_crossings do_least_crossings pm_least_crossings an_least_crossings cd_least_crossings ct_least_crossings, f__law_pool, PySem.W.fnOf "_law_pool" "_law_pool" (defArgs s__law_pool) (defBody s__law_pool) (defScope s__law_pool) .none kV__law_pool do__law_pool pm__law_pool an__law_pool cd__law_pool ct__law_pool, f__law_take, PySem.W.fnOf "_law_take" "_law_take" (defArgs s__law_take) (defBody s__law_take) (defScope s__law_take) .none kV__law_take do__law_take pm__law_take an__law_take cd__law_take ct__law_take, f__law_pick, PySem.W.fnOf "_law_pick" "_law_pick" (defArgs s__law_pick) (defBody s__law_pick) (defScope s__law_pick) .none kV__law_pick do__law_pick pm__law_pick an__law_pick cd__law_pick ct__law_pick, f__law_is_integer, PySem.W.fnOf "_law_is_integer" "_law_is_integer" (defArgs s__law_is_integer) (defBody s__law_is_integer) (defScope s__law_is_integer) .none kV__law_is_integer do__law_is_integer pm__law_is_integer an__law_is_integer cd__law_is_integer ct__law_is_integer, f__law_same, PySem.W.fnOf "_law_same" "_law_same" (defArgs s__law_same) (defBody s__law_same) (defScope s__law_same) .none kV__law_same do__law_same pm__law_same an__law_same cd__law_same ct__law_same, f__law_below, PySem.W.fnOf "_law_below" "_law_below" (defArgs s__law_below) (defBody s__law_below) (defScope s__law_below) .none kV__law_below do__law_below pm__law_below an__law_below cd__law_below ct__law_below, f__law_common, PySem.W.fnOf "_law_common" "_law_common" (defArgs s__law_common) (defBody s__law_common) (defScope s__law_common) .none kV__law_common do__law_common pm__law_common an__law_common cd__law_common ct__law_common, f__law_given, PySem.W.fnOf "_law_given" "_law_given" (defArgs s__law_given) (defBody s__law_given) (defScope s__law_given) .none kV__law_given do__law_given pm__law_given an__law_given cd__law_given ct__law_given, f__law_fraction, PySem.W.fnOf "_law_fraction" "_law_fraction" (defArgs s__law_fraction) (defBody s__law_fraction) (defScope s__law_fraction) .none kV__law_fraction do__law_fraction pm__law_fraction an__law_fraction cd__law_fraction ct__law_fraction, f__law_regular, PySem.W.fnOf "_law_regular" "_law_regular" (defArgs s__law_regular) (defBody s__law_regular) (defScope s__law_regular) .none kV__law_regular do__law_regular pm__law_regular an__law_regular cd__law_regular ct__law_regular, f__law_even, PySem.W.fnOf "_law_even" "_law_even" (defArgs s__law_even) (defBody s__law_even) (defScope s__law_even) .none kV__law_even do__law_even pm__law_even an__law_even cd__law_even ct__law_even, f__law_pair, PySem.W.fnOf "_law_pair" "_law_pair" (defArgs s__law_pair) (defBody s__law_pair) (defScope s__law_pair) .none kV__law_pair do__law_pair pm__law_pair an__law_pair cd__law_pair ct__law_pair, f__law_fault, PySem.W.fnOf "_law_fault" "_law_fault" (defArgs s__law_fault) (defBody s__law_fault) (defScope s__law_fault) .none kV__law_fault do__law_fault pm__law_fault an__law_fault cd__law_fault ct__law_fault, f__law_great_pair, PySem.W.fnOf "_law_great_pair" "_law_great_pair" (defArgs s__law_great_pair) (defBody s__law_great_pair) (defScope s__law_great_pair) .none kV__law_great_pair do__law_great_pair pm__law_great_pair an__law_great_pair cd__law_great_pair ct__law_great_pair, f__law_pair_so, PySem.W.fnOf "_law_pair_so" "_law_pair_so" (defArgs s__law_pair_so) (defBody s__law_pair_so) (defScope s__law_pair_so) .none kV__law_pair_so do__law_pair_so pm__law_pair_so an__law_pair_so cd__law_pair_so ct__law_pair_so, f__law_even_so, PySem.W.fnOf "_law_even_so" "_law_even_so" (defArgs s__law_even_so) (defBody s__law_even_so) (defScope s__law_even_so) .none kV__law_even_so do__law_even_so pm__law_even_so an__law_even_so cd__law_even_so ct__law_even_so, f__law_always, PySem.W.fnOf "_law_always" "_law_always" (defArgs s__law_always) (defBody s__law_always) (defScope s__law_always) .none kV__law_always do__law_always pm__law_always an__law_always cd__law_always ct__law_always, fa, PySem.W.fnOf "law" "law" (defArgs s_law) (defBody s_law) (defScope s_law) .none kV_law do_law pm_law an_law cd_law ct_law, C_KnotError, C_BadRow, C_BadFraction, C_BadSignedFraction, C_NoRegularRow, C_TooLongRow⟩ := {
    F_is_whole := fun_mk (st := s_is_whole) l_is_whole c_is_whole k_is_whole,
    m_is_whole := PySem.W.mg_of X G a_is_whole,
    b_is_whole := (fun_mk (st := s_is_whole) l_is_whole c_is_whole k_is_whole).binds (ps := ["value"]) fun _ _ _ _ _ _ us hl => match us, hl with | [_], _ => rfl,
    F_is_row := fun_mk (st := s_is_row) l_is_row c_is_row k_is_row,
    m_is_row := PySem.W.mg_of X G a_is_row,
    b_is_row := (fun_mk (st := s_is_row) l_is_row c_is_row k_is_row).binds (ps := ["value"]) fun _ _ _ _ _ _ us hl => match us, hl with | [_], _ => rfl,
    F_told_row := fun_mk (st := s_told_row) l_told_row c_told_row k_told_row,
    m_told_row := PySem.W.mg_of X G a_told_row,
    b_told_row := (fun_mk (st := s_told_row) l_told_row c_told_row k_told_row).binds (ps := ["row"]) fun _ _ _ _ _ _ us hl => match us, hl with | [_], _ => rfl,
    F_check_fraction := fun_mk (st := s_check_fraction) l_check_fraction c_check_fraction k_check_fraction,
    m_check_fraction := PySem.W.mg_of X G a_check_fraction,
    b_check_fraction := (fun_mk (st := s_check_fraction) l_check_fraction c_check_fraction k_check_fraction).binds (ps := ["p", "q"]) fun _ _ _ _ _ _ us hl => match us, hl with | [_, _], _ => rfl,
    F_check_signed := fun_mk (st := s_check_signed) l_check_signed c_check_signed k_check_signed,
    m_check_signed := PySem.W.mg_of X G a_check_signed,
    b_check_signed := (fun_mk (st := s_check_signed) l_check_signed c_check_signed k_check_signed).binds (ps := ["p", "e"]) fun _ _ _ _ _ _ us hl => match us, hl with | [_, _], _ => rfl,
    F_fraction_of := fun_mk (st := s_fraction_of) l_fraction_of c_fraction_of k_fraction_of,
    m_fraction_of := PySem.W.mg_of X G a_fraction_of,
    b_fraction_of := (fun_mk (st := s_fraction_of) l_fraction_of c_fraction_of k_fraction_of).binds (ps := ["row"]) fun _ _ _ _ _ _ us hl => match us, hl with | [_], _ => rfl,
    F_regular_of := fun_mk (st := s_regular_of) l_regular_of c_regular_of k_regular_of,
    m_regular_of := PySem.W.mg_of X G a_regular_of,
    b_regular_of := (fun_mk (st := s_regular_of) l_regular_of c_regular_of k_regular_of).binds (ps := ["p", "q"]) fun _ _ _ _ _ _ us hl => match us, hl with | [_, _], _ => rfl,
    F_regular_row := fun_mk (st := s_regular_row) l_regular_row c_regular_row k_regular_row,
    m_regular_row := PySem.W.mg_of X G a_regular_row,
    b_regular_row := (fun_mk (st := s_regular_row) l_regular_row c_regular_row k_regular_row).binds (ps := ["p", "q"]) fun _ _ _ _ _ _ us hl => match us, hl with | [_, _], _ => rfl,
    F_even_row := fun_mk (st := s_even_row) l_even_row c_even_row k_even_row,
    m_even_row := PySem.W.mg_of X G a_even_row,
    b_even_row := (fun_mk (st := s_even_row) l_even_row c_even_row k_even_row).binds (ps := ["p", "e"]) fun _ _ _ _ _ _ us hl => match us, hl with | [_, _], _ => rfl,
    F_mirror_fraction := fun_mk (st := s_mirror_fraction) l_mirror_fraction c_mirror_fraction k_mirror_fraction,
    m_mirror_fraction := PySem.W.mg_of X G a_mirror_fraction,
    b_mirror_fraction := (fun_mk (st := s_mirror_fraction) l_mirror_fraction c_mirror_fraction k_mirror_fraction).binds (ps := ["p", "q"]) fun _ _ _ _ _ _ us hl => match us, hl with | [_, _], _ => rfl,
    F_inverse_of := fun_mk (st := s_inverse_of) l_inverse_of c_inverse_of k_inverse_of,
    m_inverse_of := PySem.W.mg_of X G a_inverse_of,
    b_inverse_of := (fun_mk (st := s_inverse_of) l_inverse_of c_inverse_of k_inverse_of).binds (ps := ["p", "q"]) fun _ _ _ _ _ _ us hl => match us, hl with | [_, _], _ => rfl,
    F_inverse_fraction := fun_mk (st := s_inverse_fraction) l_inverse_fraction c_inverse_fraction k_inverse_fraction,
    m_inverse_fraction := PySem.W.mg_of X G a_inverse_fraction,
    b_inverse_fraction := (fun_mk (st := s_inverse_fraction) l_inverse_fraction c_inverse_fraction k_inverse_fraction).binds (ps := ["p", "q"]) fun _ _ _ _ _ _ us hl => match us, hl with | [_, _], _ => rfl,
    F_is_own_mirror := fun_mk (st := s_is_own_mirror) l_is_own_mirror c_is_own_mirror k_is_own_mirror,
    m_is_own_mirror := PySem.W.mg_of X G a_is_own_mirror,
    b_is_own_mirror := (fun_mk (st := s_is_own_mirror) l_is_own_mirror c_is_own_mirror k_is_own_mirror).binds (ps := ["p", "q"]) fun _ _ _ _ _ _ us hl => match us, hl with | [_, _], _ => rfl,
    F_least_crossings := fun_mk (st := s_least_crossings) l_least_crossings c_least_crossings k_least_crossings,
    m_least_crossings := PySem.W.mg_of X G a_least_crossings,
    b_least_crossings := (fun_mk (st := s_least_crossings) l_least_crossings c_least_crossings k_least_crossings).binds (ps := ["p", "q"]) fun _ _ _ _ _ _ us hl => match us, hl with | [_, _], _ => rfl,
    F__law_pool := fun_mk (st := s__law_pool) l__law_pool c__law_pool k__law_pool,
    m__law_pool := PySem.W.mg_of X G a__law_pool,
    b__law_pool := (fun_mk (st := s__law_pool) l__law_pool c__law_pool k__law_pool).binds (ps := ["script"]) fun _ _ _ _ _ _ us hl => match us, hl with | [_], _ => rfl,
    F__law_take := fun_mk (st := s__law_take) l__law_take c__law_take k__law_take,
    m__law_take := PySem.W.mg_of X G a__law_take,
    b__law_take := (fun_mk (st := s__law_take) l__law_take c__law_take k__law_take).binds (ps := ["pool", "many"]) fun _ _ _ _ _ _ us hl => match us, hl with | [_, _], _ => rfl,
    F__law_pick := fun_mk (st := s__law_pick) l__law_pick c__law_pick k__law_pick,
    m__law_pick := PySem.W.mg_of X G a__law_pick,
    b__law_pick := (fun_mk (st := s__law_pick) l__law_pick c__law_pick k__law_pick).binds (ps := ["pool", "rows"]) fun _ _ _ _ _ _ us hl => match us, hl with | [_, _], _ => rfl,
    F__law_is_integer := fun_mk (st := s__law_is_integer) l__law_is_integer c__law_is_integer k__law_is_integer,
    m__law_is_integer := PySem.W.mg_of X G a__law_is_integer,
    b__law_is_integer := (fun_mk (st := s__law_is_integer) l__law_is_integer c__law_is_integer k__law_is_integer).binds (ps := ["actual"]) fun _ _ _ _ _ _ us hl => match us, hl with | [_], _ => rfl,
    F__law_same := fun_mk (st := s__law_same) l__law_same c__law_same k__law_same,
    m__law_same := PySem.W.mg_of X G a__law_same,
    b__law_same := (fun_mk (st := s__law_same) l__law_same c__law_same k__law_same).binds (ps := ["actual", "due"]) fun _ _ _ _ _ _ us hl => match us, hl with | [_, _], _ => rfl,
    F__law_below := fun_mk (st := s__law_below) l__law_below c__law_below k__law_below,
    m__law_below := PySem.W.mg_of X G a__law_below,
    b__law_below := (fun_mk (st := s__law_below) l__law_below c__law_below k__law_below).binds (ps := ["pool", "many"]) fun _ _ _ _ _ _ us hl => match us, hl with | [_, _], _ => rfl,
    F__law_common := fun_mk (st := s__law_common) l__law_common c__law_common k__law_common,
    m__law_common := PySem.W.mg_of X G a__law_common,
    b__law_common := (fun_mk (st := s__law_common) l__law_common c__law_common k__law_common).binds (ps := ["one", "other"]) fun _ _ _ _ _ _ us hl => match us, hl with | [_, _], _ => rfl,
    F__law_given := fun_mk (st := s__law_given) l__law_given c__law_given k__law_given,
    m__law_given := PySem.W.mg_of X G a__law_given,
    b__law_given := (fun_mk (st := s__law_given) l__law_given c__law_given k__law_given).binds (ps := ["pool", "row"]) fun _ _ _ _ _ _ us hl => match us, hl with | [_, _], _ => rfl,
    F__law_fraction := fun_mk (st := s__law_fraction) l__law_fraction c__law_fraction k__law_fraction,
    m__law_fraction := PySem.W.mg_of X G a__law_fraction,
    b__law_fraction := (fun_mk (st := s__law_fraction) l__law_fraction c__law_fraction k__law_fraction).binds (ps := ["row"]) fun _ _ _ _ _ _ us hl => match us, hl with | [_], _ => rfl,
    F__law_regular := fun_mk (st := s__law_regular) l__law_regular c__law_regular k__law_regular,
    m__law_regular := PySem.W.mg_of X G a__law_regular,
    b__law_regular := (fun_mk (st := s__law_regular) l__law_regular c__law_regular k__law_regular).binds (ps := ["p", "q"]) fun _ _ _ _ _ _ us hl => match us, hl with | [_, _], _ => rfl,
    F__law_even := fun_mk (st := s__law_even) l__law_even c__law_even k__law_even,
    m__law_even := PySem.W.mg_of X G a__law_even,
    b__law_even := (fun_mk (st := s__law_even) l__law_even c__law_even k__law_even).binds (ps := ["p", "e"]) fun _ _ _ _ _ _ us hl => match us, hl with | [_, _], _ => rfl,
    F__law_pair := fun_mk (st := s__law_pair) l__law_pair c__law_pair k__law_pair,
    m__law_pair := PySem.W.mg_of X G a__law_pair,
    b__law_pair := (fun_mk (st := s__law_pair) l__law_pair c__law_pair k__law_pair).binds (ps := ["pool", "most"]) fun _ _ _ _ _ _ us hl => match us, hl with | [_, _], _ => rfl,
    F__law_fault := fun_mk (st := s__law_fault) l__law_fault c__law_fault k__law_fault,
    m__law_fault := PySem.W.mg_of X G a__law_fault,
    b__law_fault := (fun_mk (st := s__law_fault) l__law_fault c__law_fault k__law_fault).binds (ps := ["word", "p", "q"]) fun _ _ _ _ _ _ us hl => match us, hl with | [_, _, _], _ => rfl,
    F__law_great_pair := fun_mk (st := s__law_great_pair) l__law_great_pair c__law_great_pair k__law_great_pair,
    m__law_great_pair := PySem.W.mg_of X G a__law_great_pair,
    b__law_great_pair := (fun_mk (st := s__law_great_pair) l__law_great_pair c__law_great_pair k__law_great_pair).binds (ps := ["pool"]) fun _ _ _ _ _ _ us hl => match us, hl with | [_], _ => rfl,
    F__law_pair_so := fun_mk (st := s__law_pair_so) l__law_pair_so c__law_pair_so k__law_pair_so,
    m__law_pair_so := PySem.W.mg_of X G a__law_pair_so,
    b__law_pair_so := (fun_mk (st := s__law_pair_so) l__law_pair_so c__law_pair_so k__law_pair_so).binds (ps := ["p", "q"]) fun _ _ _ _ _ _ us hl => match us, hl with | [_, _], _ => rfl,
    F__law_even_so := fun_mk (st := s__law_even_so) l__law_even_so c__law_even_so k__law_even_so,
    m__law_even_so := PySem.W.mg_of X G a__law_even_so,
    b__law_even_so := (fun_mk (st := s__law_even_so) l__law_even_so c__law_even_so k__law_even_so).binds (ps := ["p", "e"]) fun _ _ _ _ _ _ us hl => match us, hl with | [_, _], _ => rfl,
    F__law_always := fun_mk (st := s__law_always) l__law_always c__law_always k__law_always,
    m__law_always := PySem.W.mg_of X G a__law_always,
    b__law_always := (fun_mk (st := s__law_always) l__law_always c__law_always k__law_always).binds (ps := []) fun _ _ _ _ _ _ us hl => match us, hl with | [], _ => rfl,
    F_law := fun_mk (st := s_law) l_law c_law k_law,
    m_law := PySem.W.mg_of X G a_law,
    m_KnotError := PySem.W.mg_of X G a_KnotError,
    c_KnotError := ⟨x_KnotError_0, x_KnotError_1, ⟨x_KnotError_2, x_KnotError_3, x_KnotError_4, x_KnotError_5, x_KnotError_6, x_KnotError_7, x_KnotError_8, x_KnotError_9⟩, x_KnotError_10⟩,
    m_BadRow := PySem.W.mg_of X G a_BadRow,
    c_BadRow := ⟨x_BadRow_0, x_BadRow_1, ⟨x_BadRow_2, x_BadRow_3, x_BadRow_4, x_BadRow_5, x_BadRow_6, x_BadRow_7, x_BadRow_8, x_BadRow_9⟩, x_BadRow_10⟩,
    m_BadFraction := PySem.W.mg_of X G a_BadFraction,
    c_BadFraction := ⟨x_BadFraction_0, x_BadFraction_1, ⟨x_BadFraction_2, x_BadFraction_3, x_BadFraction_4, x_BadFraction_5, x_BadFraction_6, x_BadFraction_7, x_BadFraction_8, x_BadFraction_9⟩, x_BadFraction_10⟩,
    m_BadSignedFraction := PySem.W.mg_of X G a_BadSignedFraction,
    c_BadSignedFraction := ⟨x_BadSignedFraction_0, x_BadSignedFraction_1, ⟨x_BadSignedFraction_2, x_BadSignedFraction_3, x_BadSignedFraction_4, x_BadSignedFraction_5, x_BadSignedFraction_6, x_BadSignedFraction_7, x_BadSignedFraction_8, x_BadSignedFraction_9⟩, x_BadSignedFraction_10⟩,
    m_NoRegularRow := PySem.W.mg_of X G a_NoRegularRow,
    c_NoRegularRow := ⟨x_NoRegularRow_0, x_NoRegularRow_1, ⟨x_NoRegularRow_2, x_NoRegularRow_3, x_NoRegularRow_4, x_NoRegularRow_5, x_NoRegularRow_6, x_NoRegularRow_7, x_NoRegularRow_8, x_NoRegularRow_9⟩, x_NoRegularRow_10⟩,
    m_TooLongRow := PySem.W.mg_of X G a_TooLongRow,
    c_TooLongRow := ⟨x_TooLongRow_0, x_TooLongRow_1, ⟨x_TooLongRow_2, x_TooLongRow_3, x_TooLongRow_4, x_TooLongRow_5, x_TooLongRow_6, x_TooLongRow_7, x_TooLongRow_8, x_TooLongRow_9⟩, x_TooLongRow_10⟩,
    e_BadRow_KnotError := pe_BadRow_KnotError,
    k_BadRow_BadRow := pk_BadRow_BadRow,
    k_BadRow_BadFraction := pk_BadRow_BadFraction,
    k_BadRow_BadSignedFraction := pk_BadRow_BadSignedFraction,
    k_BadRow_NoRegularRow := pk_BadRow_NoRegularRow,
    k_BadRow_TooLongRow := pk_BadRow_TooLongRow,
    e_BadFraction_KnotError := pe_BadFraction_KnotError,
    k_BadFraction_BadRow := pk_BadFraction_BadRow,
    k_BadFraction_BadFraction := pk_BadFraction_BadFraction,
    k_BadFraction_BadSignedFraction := pk_BadFraction_BadSignedFraction,
    k_BadFraction_NoRegularRow := pk_BadFraction_NoRegularRow,
    k_BadFraction_TooLongRow := pk_BadFraction_TooLongRow,
    e_BadSignedFraction_KnotError := pe_BadSignedFraction_KnotError,
    k_BadSignedFraction_BadRow := pk_BadSignedFraction_BadRow,
    k_BadSignedFraction_BadFraction := pk_BadSignedFraction_BadFraction,
    k_BadSignedFraction_BadSignedFraction := pk_BadSignedFraction_BadSignedFraction,
    k_BadSignedFraction_NoRegularRow := pk_BadSignedFraction_NoRegularRow,
    k_BadSignedFraction_TooLongRow := pk_BadSignedFraction_TooLongRow,
    e_NoRegularRow_KnotError := pe_NoRegularRow_KnotError,
    k_NoRegularRow_BadRow := pk_NoRegularRow_BadRow,
    k_NoRegularRow_BadFraction := pk_NoRegularRow_BadFraction,
    k_NoRegularRow_BadSignedFraction := pk_NoRegularRow_BadSignedFraction,
    k_NoRegularRow_NoRegularRow := pk_NoRegularRow_NoRegularRow,
    k_NoRegularRow_TooLongRow := pk_NoRegularRow_TooLongRow,
    e_TooLongRow_KnotError := pe_TooLongRow_KnotError,
    k_TooLongRow_BadRow := pk_TooLongRow_BadRow,
    k_TooLongRow_BadFraction := pk_TooLongRow_BadFraction,
    k_TooLongRow_BadSignedFraction := pk_TooLongRow_BadSignedFraction,
    k_TooLongRow_NoRegularRow := pk_TooLongRow_NoRegularRow,
    k_TooLongRow_TooLongRow := pk_TooLongRow_TooLongRow,
    m_MOST_ROW := ⟨_, PySem.W.mg_of X G a_MOST_ROW⟩,
    m_MOST_FRACTION := ⟨_, PySem.W.mg_of X G a_MOST_FRACTION⟩,
    m_MOST_EVEN := ⟨_, PySem.W.mg_of X G a_MOST_EVEN⟩,
    m_gcd := PySem.W.mg_of X G a_gcd,
    z_abs := PySem.W.mg_none_of X G z_abs,
    z_all := PySem.W.mg_none_of X G z_all,
    z_any := PySem.W.mg_none_of X G z_any,
    z_bool := PySem.W.mg_none_of X G z_bool,
    z_int := PySem.W.mg_none_of X G z_int,
    z_isinstance := PySem.W.mg_none_of X G z_isinstance,
    z_len := PySem.W.mg_none_of X G z_len,
    z_list := PySem.W.mg_none_of X G z_list,
    z_range := PySem.W.mg_none_of X G z_range,
    z_str := PySem.W.mg_none_of X G z_str,
    z_sum := PySem.W.mg_none_of X G z_sum,
    z_tuple := PySem.W.mg_none_of X G z_tuple }
  exact ⟨PySem.W.fnOf "law" "law" (defArgs s_law) (defBody s_law) (defScope s_law) .none kV_law do_law pm_law an_law cd_law ct_law, fun s v => .of_eq rfl, fun base _ _ => ok_law T⟩
theorem walk {l : PySem.W.OpenLaw} {q : Program} {loose : List Str} {XP : (Str → Option Value) → Heap → Prop} {YP : World → Heap → Prop} {d : DefRec} {K : Params → PySem.W.Frag} (hn : l.most = some 63) (hdf : d.params.defaults = [])
    (hY : ∀ (w : World) (h : Heap), YP w h → (K w.params).In h)
    (F : ∀ (w : World) (mg : Str → Option Value) (fa : Addr) (h : Heap), (K w.params).In h → h.Ns mainGlobals mg → mg d.name = some (.ref fa) →
      ∃ fd : FuncData, (∀ (s : Shared) (u : Value), BindsTo s fd ⟨[u], []⟩ [("script", u)]) ∧ ∀ base : Heap, (K w.params).In base → base.Ns mainGlobals mg → FnOk l.prog w (K w.params) mg base (L2N.CX l.prog w) 12 fa fd ["script"] (spLaw (K w.params))) :
    PySem.W.WalkO q loose XP YP l.row.toRowW d [] (fun f vs => PySem.call f vs) :=
  L2.walk_of (n := 63) (k := 12) (x := "script") (CX := fun w => L2N.CX l.prog w) (sp := fun w => spLaw (K w.params)) hn (by decide) hdf ⟨rfl, by decide, by decide⟩ hY F (fun _ _ a ns hl _ hS => ⟨_, a, ns, rfl, Same.refl _, hS, hl, fun _ => rfl⟩) fun _ _ _ _ _ z => by
    obtain ⟨_, _, _, _, _, _, _, _, _, _, _, _, z⟩ := z
    exact z
end K63
open PySem PySem.W PyProof.Rows in
set_option maxRecDepth 100000 in
set_option maxHeartbeats 0 in
theorem PySem.Challenge.cw_knotproved_k63_whole_fractions_and_rows_holds : PySem.Challenge.rw_knotproved_k63_whole_fractions_and_rows.Holds := by
  w_on; o_law; k_head; (case hw => w_witness2)
  k_fill
  refine K63.walk (l := PySem.Challenge.rw_knotproved_k63_whole_fractions_and_rows) rfl rfl (fun w h Y => PySem.W.kIn_of Y) ?F
  case F =>
    intro w mg fa h KX G hmg
    refine' K63.all_mk KX G hmg ?a_is_whole ?a_is_row ?a_told_row ?a_check_fraction ?a_check_signed ?a_fraction_of ?a_regular_of ?a_regular_row ?a_even_row ?a_mirror_fraction ?a_inverse_of ?a_inverse_fraction ?a_is_own_mirror ?a_least_crossings ?a__law_pool ?a__law_take ?a__law_pick ?a__law_is_integer ?a__law_same ?a__law_below ?a__law_common ?a__law_given ?a__law_fraction ?a__law_regular ?a__law_even ?a__law_pair ?a__law_fault ?a__law_great_pair ?a__law_pair_so ?a__law_even_so ?a__law_always ?a_law ?a_KnotError ?a_BadRow ?a_BadFraction ?a_BadSignedFraction ?a_NoRegularRow ?a_TooLongRow ?a_MOST_ROW ?a_MOST_FRACTION ?a_MOST_EVEN ?a_gcd ?l_is_whole ?c_is_whole ?k_is_whole ?l_is_row ?c_is_row ?k_is_row ?l_told_row ?c_told_row ?k_told_row ?l_check_fraction ?c_check_fraction ?k_check_fraction ?l_check_signed ?c_check_signed ?k_check_signed ?l_fraction_of ?c_fraction_of ?k_fraction_of ?l_regular_of ?c_regular_of ?k_regular_of ?l_regular_row ?c_regular_row ?k_regular_row ?l_even_row ?c_even_row ?k_even_row ?l_mirror_fraction ?c_mirror_fraction ?k_mirror_fraction ?l_inverse_of ?c_inverse_of ?k_inverse_of ?l_inverse_fraction ?c_inverse_fraction ?k_inverse_fraction ?l_is_own_mirror ?c_is_own_mirror ?k_is_own_mirror ?l_least_crossings ?c_least_crossings ?k_least_crossings ?l__law_pool ?c__law_pool ?k__law_pool ?l__law_take ?c__law_take ?k__law_take ?l__law_pick ?c__law_pick ?k__law_pick ?l__law_is_integer ?c__law_is_integer ?k__law_is_integer ?l__law_same ?c__law_same ?k__law_same ?l__law_below ?c__law_below ?k__law_below ?l__law_common ?c__law_common ?k__law_common ?l__law_given ?c__law_given ?k__law_given ?l__law_fraction ?c__law_fraction ?k__law_fraction ?l__law_regular ?c__law_regular ?k__law_regular ?l__law_even ?c__law_even ?k__law_even ?l__law_pair ?c__law_pair ?k__law_pair ?l__law_fault ?c__law_fault ?k__law_fault ?l__law_great_pair ?c__law_great_pair ?k__law_great_pair ?l__law_pair_so ?c__law_pair_so ?k__law_pair_so ?l__law_even_so ?c__law_even_so ?k__law_even_so ?l__law_always ?c__law_always ?k__law_always ?l_law ?c_law ?k_law ?x_KnotError_0 ?x_KnotError_1 ?x_KnotError_2 ?x_KnotError_3 ?x_KnotError_4 ?x_KnotError_5 ?x_KnotError_6 ?x_KnotError_7 ?x_KnotError_8 ?x_KnotError_9 ?x_KnotError_10 ?x_BadRow_0 ?x_BadRow_1 ?x_BadRow_2 ?x_BadRow_3 ?x_BadRow_4 ?x_BadRow_5 ?x_BadRow_6 ?x_BadRow_7 ?x_BadRow_8 ?x_BadRow_9 ?x_BadRow_10 ?x_BadFraction_0 ?x_BadFraction_1 ?x_BadFraction_2 ?x_BadFraction_3 ?x_BadFraction_4 ?x_BadFraction_5 ?x_BadFraction_6 ?x_BadFraction_7 ?x_BadFraction_8 ?x_BadFraction_9 ?x_BadFraction_10 ?x_BadSignedFraction_0 ?x_BadSignedFraction_1 ?x_BadSignedFraction_2 ?x_BadSignedFraction_3 ?x_BadSignedFraction_4 ?x_BadSignedFraction_5 ?x_BadSignedFraction_6 ?x_BadSignedFraction_7 ?x_BadSignedFraction_8 ?x_BadSignedFraction_9 ?x_BadSignedFraction_10 ?x_NoRegularRow_0 ?x_NoRegularRow_1 ?x_NoRegularRow_2 ?x_NoRegularRow_3 ?x_NoRegularRow_4 ?x_NoRegularRow_5 ?x_NoRegularRow_6 ?x_NoRegularRow_7 ?x_NoRegularRow_8 ?x_NoRegularRow_9 ?x_NoRegularRow_10 ?x_TooLongRow_0 ?x_TooLongRow_1 ?x_TooLongRow_2 ?x_TooLongRow_3 ?x_TooLongRow_4 ?x_TooLongRow_5 ?x_TooLongRow_6 ?x_TooLongRow_7 ?x_TooLongRow_8 ?x_TooLongRow_9 ?x_TooLongRow_10 ?pe_BadRow_KnotError ?pk_BadRow_BadRow ?pk_BadRow_BadFraction ?pk_BadRow_BadSignedFraction ?pk_BadRow_NoRegularRow ?pk_BadRow_TooLongRow ?pe_BadFraction_KnotError ?pk_BadFraction_BadRow ?pk_BadFraction_BadFraction ?pk_BadFraction_BadSignedFraction ?pk_BadFraction_NoRegularRow ?pk_BadFraction_TooLongRow ?pe_BadSignedFraction_KnotError ?pk_BadSignedFraction_BadRow ?pk_BadSignedFraction_BadFraction ?pk_BadSignedFraction_BadSignedFraction ?pk_BadSignedFraction_NoRegularRow ?pk_BadSignedFraction_TooLongRow ?pe_NoRegularRow_KnotError ?pk_NoRegularRow_BadRow ?pk_NoRegularRow_BadFraction ?pk_NoRegularRow_BadSignedFraction ?pk_NoRegularRow_NoRegularRow ?pk_NoRegularRow_TooLongRow ?pe_TooLongRow_KnotError ?pk_TooLongRow_BadRow ?pk_TooLongRow_BadFraction ?pk_TooLongRow_BadSignedFraction ?pk_TooLongRow_NoRegularRow ?pk_TooLongRow_TooLongRow ?z_abs ?z_all ?z_any ?z_bool ?z_int ?z_isinstance ?z_len ?z_list ?z_range ?z_str ?z_sum ?z_tuple
    (case a_is_whole => k_is)
    (case a_is_row => k_is)
    (case a_told_row => k_is)
    (case a_check_fraction => k_is)
    (case a_check_signed => k_is)
    (case a_fraction_of => k_is)
    (case a_regular_of => k_is)
    (case a_regular_row => k_is)
    (case a_even_row => k_is)
    (case a_mirror_fraction => k_is)
    (case a_inverse_of => k_is)
    (case a_inverse_fraction => k_is)
    (case a_is_own_mirror => k_is)
    (case a_least_crossings => k_is)
    (case a__law_pool => k_is)
    (case a__law_take => k_is)
    (case a__law_pick => k_is)
    (case a__law_is_integer => k_is)
    (case a__law_same => k_is)
    (case a__law_below => k_is)
    (case a__law_common => k_is)
    (case a__law_given => k_is)
    (case a__law_fraction => k_is)
    (case a__law_regular => k_is)
    (case a__law_even => k_is)
    (case a__law_pair => k_is)
    (case a__law_fault => k_is)
    (case a__law_great_pair => k_is)
    (case a__law_pair_so => k_is)
    (case a__law_even_so => k_is)
    (case a__law_always => k_is)
    (case a_law => k_is)
    (case a_KnotError => k_is)
    (case a_BadRow => k_is)
    (case a_BadFraction => k_is)
    (case a_BadSignedFraction => k_is)
    (case a_NoRegularRow => k_is)
    (case a_TooLongRow => k_is)
    (case a_MOST_ROW => k_is)
    (case a_MOST_FRACTION => k_is)
    (case a_MOST_EVEN => k_is)
    (case a_gcd => k_is)
    (case l_is_whole => k_is)
    (case c_is_whole => k_is)
    (case k_is_whole => k_is)
    (case l_is_row => k_is)
    (case c_is_row => k_is)
    (case k_is_row => k_is)
    (case l_told_row => k_is)
    (case c_told_row => k_is)
    (case k_told_row => k_is)
    (case l_check_fraction => k_is)
    (case c_check_fraction => k_is)
    (case k_check_fraction => k_is)
    (case l_check_signed => k_is)
    (case c_check_signed => k_is)
    (case k_check_signed => k_is)
    (case l_fraction_of => k_is)
    (case c_fraction_of => k_is)
    (case k_fraction_of => k_is)
    (case l_regular_of => k_is)
    (case c_regular_of => k_is)
    (case k_regular_of => k_is)
    (case l_regular_row => k_is)
    (case c_regular_row => k_is)
    (case k_regular_row => k_is)
    (case l_even_row => k_is)
    (case c_even_row => k_is)
    (case k_even_row => k_is)
    (case l_mirror_fraction => k_is)
    (case c_mirror_fraction => k_is)
    (case k_mirror_fraction => k_is)
    (case l_inverse_of => k_is)
    (case c_inverse_of => k_is)
    (case k_inverse_of => k_is)
    (case l_inverse_fraction => k_is)
    (case c_inverse_fraction => k_is)
    (case k_inverse_fraction => k_is)
    (case l_is_own_mirror => k_is)
    (case c_is_own_mirror => k_is)
    (case k_is_own_mirror => k_is)
    (case l_least_crossings => k_is)
    (case c_least_crossings => k_is)
    (case k_least_crossings => k_is)
    (case l__law_pool => k_is)
    (case c__law_pool => k_is)
    (case k__law_pool => k_is)
    (case l__law_take => k_is)
    (case c__law_take => k_is)
    (case k__law_take => k_is)
    (case l__law_pick => k_is)
    (case c__law_pick => k_is)
    (case k__law_pick => k_is)
    (case l__law_is_integer => k_is)
    (case c__law_is_integer => k_is)
    (case k__law_is_integer => k_is)
    (case l__law_same => k_is)
    (case c__law_same => k_is)
    (case k__law_same => k_is)
    (case l__law_below => k_is)
    (case c__law_below => k_is)
    (case k__law_below => k_is)
    (case l__law_common => k_is)
    (case c__law_common => k_is)
    (case k__law_common => k_is)
    (case l__law_given => k_is)
    (case c__law_given => k_is)
    (case k__law_given => k_is)
    (case l__law_fraction => k_is)
    (case c__law_fraction => k_is)
    (case k__law_fraction => k_is)
    (case l__law_regular => k_is)
    (case c__law_regular => k_is)
    (case k__law_regular => k_is)
    (case l__law_even => k_is)
    (case c__law_even => k_is)
    (case k__law_even => k_is)
    (case l__law_pair => k_is)
    (case c__law_pair => k_is)
    (case k__law_pair => k_is)
    (case l__law_fault => k_is)
    (case c__law_fault => k_is)
    (case k__law_fault => k_is)
    (case l__law_great_pair => k_is)
    (case c__law_great_pair => k_is)
    (case k__law_great_pair => k_is)
    (case l__law_pair_so => k_is)
    (case c__law_pair_so => k_is)
    (case k__law_pair_so => k_is)
    (case l__law_even_so => k_is)
    (case c__law_even_so => k_is)
    (case k__law_even_so => k_is)
    (case l__law_always => k_is)
    (case c__law_always => k_is)
    (case k__law_always => k_is)
    (case l_law => k_is)
    (case c_law => k_is)
    (case k_law => k_is)
    (case x_KnotError_0 => k_exc)
    (case x_KnotError_1 => k_is)
    (case x_KnotError_2 => k_is)
    (case x_KnotError_3 => k_is)
    (case x_KnotError_4 => k_is)
    (case x_KnotError_5 => k_is)
    (case x_KnotError_6 => k_is)
    (case x_KnotError_7 => k_is)
    (case x_KnotError_8 => k_is)
    (case x_KnotError_9 => k_is)
    (case x_KnotError_10 => k_is)
    (case x_BadRow_0 => k_exc)
    (case x_BadRow_1 => k_is)
    (case x_BadRow_2 => k_is)
    (case x_BadRow_3 => k_is)
    (case x_BadRow_4 => k_is)
    (case x_BadRow_5 => k_is)
    (case x_BadRow_6 => k_is)
    (case x_BadRow_7 => k_is)
    (case x_BadRow_8 => k_is)
    (case x_BadRow_9 => k_is)
    (case x_BadRow_10 => k_is)
    (case x_BadFraction_0 => k_exc)
    (case x_BadFraction_1 => k_is)
    (case x_BadFraction_2 => k_is)
    (case x_BadFraction_3 => k_is)
    (case x_BadFraction_4 => k_is)
    (case x_BadFraction_5 => k_is)
    (case x_BadFraction_6 => k_is)
    (case x_BadFraction_7 => k_is)
    (case x_BadFraction_8 => k_is)
    (case x_BadFraction_9 => k_is)
    (case x_BadFraction_10 => k_is)
    (case x_BadSignedFraction_0 => k_exc)
    (case x_BadSignedFraction_1 => k_is)
    (case x_BadSignedFraction_2 => k_is)
    (case x_BadSignedFraction_3 => k_is)
    (case x_BadSignedFraction_4 => k_is)
    (case x_BadSignedFraction_5 => k_is)
    (case x_BadSignedFraction_6 => k_is)
    (case x_BadSignedFraction_7 => k_is)
    (case x_BadSignedFraction_8 => k_is)
    (case x_BadSignedFraction_9 => k_is)
    (case x_BadSignedFraction_10 => k_is)
    (case x_NoRegularRow_0 => k_exc)
    (case x_NoRegularRow_1 => k_is)
    (case x_NoRegularRow_2 => k_is)
    (case x_NoRegularRow_3 => k_is)
    (case x_NoRegularRow_4 => k_is)
    (case x_NoRegularRow_5 => k_is)
    (case x_NoRegularRow_6 => k_is)
    (case x_NoRegularRow_7 => k_is)
    (case x_NoRegularRow_8 => k_is)
    (case x_NoRegularRow_9 => k_is)
    (case x_NoRegularRow_10 => k_is)
    (case x_TooLongRow_0 => k_exc)
    (case x_TooLongRow_1 => k_is)
    (case x_TooLongRow_2 => k_is)
    (case x_TooLongRow_3 => k_is)
    (case x_TooLongRow_4 => k_is)
    (case x_TooLongRow_5 => k_is)
    (case x_TooLongRow_6 => k_is)
    (case x_TooLongRow_7 => k_is)
    (case x_TooLongRow_8 => k_is)
    (case x_TooLongRow_9 => k_is)
    (case x_TooLongRow_10 => k_is)
    (case pe_BadRow_KnotError => k_is)
    (case pk_BadRow_BadRow => kit_is)
    (case pk_BadRow_BadFraction => kit_is)
    (case pk_BadRow_BadSignedFraction => kit_is)
    (case pk_BadRow_NoRegularRow => kit_is)
    (case pk_BadRow_TooLongRow => kit_is)
    (case pe_BadFraction_KnotError => k_is)
    (case pk_BadFraction_BadRow => kit_is)
    (case pk_BadFraction_BadFraction => kit_is)
    (case pk_BadFraction_BadSignedFraction => kit_is)
    (case pk_BadFraction_NoRegularRow => kit_is)
    (case pk_BadFraction_TooLongRow => kit_is)
    (case pe_BadSignedFraction_KnotError => k_is)
    (case pk_BadSignedFraction_BadRow => kit_is)
    (case pk_BadSignedFraction_BadFraction => kit_is)
    (case pk_BadSignedFraction_BadSignedFraction => kit_is)
    (case pk_BadSignedFraction_NoRegularRow => kit_is)
    (case pk_BadSignedFraction_TooLongRow => kit_is)
    (case pe_NoRegularRow_KnotError => k_is)
    (case pk_NoRegularRow_BadRow => kit_is)
    (case pk_NoRegularRow_BadFraction => kit_is)
    (case pk_NoRegularRow_BadSignedFraction => kit_is)
    (case pk_NoRegularRow_NoRegularRow => kit_is)
    (case pk_NoRegularRow_TooLongRow => kit_is)
    (case pe_TooLongRow_KnotError => k_is)
    (case pk_TooLongRow_BadRow => kit_is)
    (case pk_TooLongRow_BadFraction => kit_is)
    (case pk_TooLongRow_BadSignedFraction => kit_is)
    (case pk_TooLongRow_NoRegularRow => kit_is)
    (case pk_TooLongRow_TooLongRow => kit_is)
    (case z_abs => k_is)
    (case z_all => k_is)
    (case z_any => k_is)
    (case z_bool => k_is)
    (case z_int => k_is)
    (case z_isinstance => k_is)
    (case z_len => k_is)
    (case z_list => k_is)
    (case z_range => k_is)
    (case z_str => k_is)
    (case z_sum => k_is)
    (case z_tuple => k_is)
