import PyProof.Rows.All
import Wide.All
import OpenK.AllK
import Wide.FinOn
import HandS.ForMost
import HandS.ForExc
import HandS.IsInst
import HandS.Gcd
import HandS.TupAny
import HandS.TupMul
import HandS.Style
import HandS.Wide
import HandS.ExcIs
import HandS.HotCalls
import HandS.Walk
import HandS.SortInts
import PySem.Challenge.RW_knotproved_k71_whole_directed_two_bridge
set_option Elab.async false
set_option linter.all false
set_option maxRecDepth 100000
/-! Layer 3: trees of data over the hand layer; a ghost part of the heap that never changes beside what is owned. -/
namespace L3
open PySem PySem.Spec PyProof.Rows L2
abbrev Fg := PySem.W.Frag
abbrev D := PyData

/-! ### heaps -/
structure Wk (G H G1 H1 : Hp) : Prop where
  g : Same G G1
  b : Same G1 H1
  h : Same H H1
  n : ∀ p, H p ≠ none → G p = none → G1 p = none
theorem Wk.refl {G H : Hp} (b : Same G H) : Wk G H G H := ⟨Same.refl _, b, Same.refl _, fun _ _ h => h⟩
theorem Wk.trans {G H G1 H1 G2 H2 : Hp} (x : Wk G H G1 H1) (y : Wk G1 H1 G2 H2) : Wk G H G2 H2 :=
  ⟨x.g.trans y.g, y.b, x.h.trans y.h, fun p h1 h2 => by
    refine y.n p (fun e => ?_) (x.n p h1 h2)
    cases q : H p with
    | none => exact h1 q
    | some o => rw [x.h p o q] at e; cases e⟩
theorem none_of_same {G H : Hp} {p : Addr} (b : Same G H) (h : H p = none) : G p = none := b.free h
theorem Wk.new {G H : Hp} {p : Addr} {o : HO} (b : Same G H) (hp : H p = none) : Wk G H (upd G p o) (upd H p o) := by
  have gp := none_of_same b hp
  refine ⟨fun q u e => ?_, fun q u e => ?_, fun q u e => ?_, fun q h1 h2 => ?_⟩
  · rw [upd_ne (ne_of_none e gp)]; exact e
  · unfold upd at e ⊢
    split at e
    · rename_i hq; rw [if_pos hq]; exact e
    · rename_i hq; rw [if_neg hq]; exact b q u e
  · rw [upd_ne (ne_of_none e hp)]; exact e
  · have hq : q ≠ p := fun z => h1 (by rw [z]; exact hp)
    rw [upd_ne hq]; exact h2
/-- a new object that will be owned -/
theorem Wk.own {G H : Hp} {p : Addr} {o : HO} (b : Same G H) (hp : H p = none) : Wk G H G (upd H p o) := by
  have gp := none_of_same b hp
  refine ⟨Same.refl _, fun q u e => ?_, fun q u e => ?_, fun _ _ h => h⟩
  · rw [upd_ne (ne_of_none e gp)]; exact b q u e
  · rw [upd_ne (ne_of_none e hp)]; exact e
/-- an owned object changes -/
theorem Wk.mut {G H G1 H1 : Hp} {p : Addr} {o : HO} (x : Wk G H G1 H1) (h0 : H p = none) (g1 : G1 p = none) : Wk G H G1 (upd H1 p o) := by
  refine ⟨x.g, fun q u e => ?_, fun q u e => ?_, x.n⟩
  · rw [upd_ne (ne_of_none e g1)]; exact x.b q u e
  · rw [upd_ne (ne_of_none e h0)]; exact x.h q u e
/-- an owned object is given to the ghost part -/
theorem Wk.freeze {G H G1 H1 : Hp} {p : Addr} {o : HO} (x : Wk G H G1 H1) (h0 : H p = none) (g1 : G1 p = none) (hp : H1 p = some o) : Wk G H (upd G1 p o) H1 := by
  refine ⟨fun q u e => ?_, fun q u e => ?_, x.h, fun q h1 h2 => ?_⟩
  · have e1 := x.g q u e
    rw [upd_ne (ne_of_none e1 g1)]; exact e1
  · unfold upd at e
    split at e
    · rename_i hq; rw [hq, hp]; exact e
    · exact x.b q u e
  · have hq : q ≠ p := fun z => h1 (by rw [z]; exact h0)
    rw [upd_ne hq]; exact x.n q h1 h2
/-- an owned object stays where nothing touches it -/
theorem Wk.keep {G H G1 H1 : Hp} {p : Addr} {o : HO} (x : Wk G H G1 H1) (hp : H p = some o) (gp : G p = none) : H1 p = some o ∧ G1 p = none :=
  ⟨x.h p o hp, x.n p (by rw [hp]; simp) gp⟩

/-! ### data -/
theorem sql_up {K : Fg} {H H' : Hp} {a : Addr} {xs : List V} (e : Same H H') (h : SqL K H a xs) : SqL K H' a xs := e.seq h
theorem sqt_up {K : Fg} {H H' : Hp} {a : Addr} {xs : List V} (e : Same H H') (h : SqT K H a xs) : SqT K H' a xs := by
  rcases h with (h | ⟨o, h⟩) | h
  · exact .inl (.inl (e _ _ h))
  · exact .inl (.inr ⟨o, e _ _ h⟩)
  · exact .inr h
def kD : Key → D
  | .inl i => .int i
  | .inr x => .str x
mutual
/-- the value v is the tree d -/
inductive Rp (K : Fg) (H : Hp) : V → D → Prop
  | non : Rp K H .non .none
  | bl (b : Bool) : Rp K H (.bl b) (.bool b)
  | int (i : Int) : Rp K H (.int i) (.int i)
  | str (x : Str) : Rp K H (.str x) (.str x)
  | lst {a : Addr} {xs : List V} {ds : List D} : SqL K H a xs → RpA K H xs ds → Rp K H (.ref a) (.list ds)
  | tup {a : Addr} {xs : List V} {ds : List D} : SqT K H a xs → RpA K H xs ds → Rp K H (.ref a) (.tuple ds)
  | dct {a : Addr} {o : Obj} {kvs : List (Key × V)} {ds : List (D × D)} : H a = some (.frz o (.dK kvs)) → RpM K H kvs ds → Rp K H (.ref a) (.dict ds)
inductive RpA (K : Fg) (H : Hp) : List V → List D → Prop
  | nil : RpA K H [] []
  | cons {v : V} {vs : List V} {d : D} {ds : List D} : Rp K H v d → RpA K H vs ds → RpA K H (v :: vs) (d :: ds)
inductive RpM (K : Fg) (H : Hp) : List (Key × V) → List (D × D) → Prop
  | nil : RpM K H [] []
  | cons {k : Key} {v : V} {kvs : List (Key × V)} {d : D} {ds : List (D × D)} : Rp K H v d → RpM K H kvs ds → RpM K H ((k, v) :: kvs) ((kD k, d) :: ds)
end
mutual
theorem Rp.up {K : Fg} {H H' : Hp} (e : Same H H') : ∀ {v : V} {d : D}, Rp K H v d → Rp K H' v d
  | _, _, .non => .non
  | _, _, .bl b => .bl b
  | _, _, .int i => .int i
  | _, _, .str x => .str x
  | _, _, .lst hs ha => .lst (sql_up e hs) (RpA.up e ha)
  | _, _, .tup hs ha => .tup (sqt_up e hs) (RpA.up e ha)
  | _, _, .dct hs ha => .dct (e _ _ hs) (RpM.up e ha)
theorem RpA.up {K : Fg} {H H' : Hp} (e : Same H H') : ∀ {vs : List V} {ds : List D}, RpA K H vs ds → RpA K H' vs ds
  | _, _, .nil => .nil
  | _, _, .cons h1 h2 => .cons (Rp.up e h1) (RpA.up e h2)
theorem RpM.up {K : Fg} {H H' : Hp} (e : Same H H') : ∀ {vs : List (Key × V)} {ds : List (D × D)}, RpM K H vs ds → RpM K H' vs ds
  | _, _, .nil => .nil
  | _, _, .cons h1 h2 => .cons (Rp.up e h1) (RpM.up e h2)
end
theorem dp_up {K : Fg} {H H' : Hp} {v : V} {d : D} (e : Same H H') (h : Rp K H v d) : Rp K H' v d := Rp.up e h
theorem dpa_up {K : Fg} {H H' : Hp} {vs : List V} {ds : List D} (e : Same H H') (h : RpA K H vs ds) : RpA K H' vs ds := RpA.up e h
mutual
theorem rp_dp {K : Fg} {H : Hp} : ∀ {v : V} {d : D}, Rp K H v d → d.canLay0 = true → Dp K H v d
  | _, _, .non, _ => .non
  | _, _, .bl b, _ => .bl b
  | _, _, .int i, _ => .int i
  | _, _, .str x, _ => .str x
  | _, _, .lst hs ha, q => .lst hs (rpa_dp ha (by simpa only [PyData.canLay0] using q))
  | _, _, .tup hs ha, q => .tup hs (rpa_dp ha (by simpa only [PyData.canLay0] using q))
  | _, _, .dct _ _, q => by simp [PyData.canLay0] at q
theorem rpa_dp {K : Fg} {H : Hp} : ∀ {vs : List V} {ds : List D}, RpA K H vs ds → PyData.canLayAll0 ds = true → DpAll K H vs ds
  | _, _, .nil, _ => .nil
  | _, _, .cons h1 h2, q => by
    simp only [PyData.canLayAll0, Bool.and_eq_true] at q
    exact .cons (rp_dp h1 q.1) (rpa_dp h2 q.2)
end
theorem rp_sh {K : Fg} {H : Hp} {v : V} {d : D} (h : Rp K H v d) (q : SeqAt.shaped d = true) : Dp K H v d := rp_dp h (SeqAt.canLay_of_shaped q)
theorem dpa_len {K : Fg} {H : Hp} : ∀ {ds : List D} {vs : List V}, RpA K H vs ds → vs.length = ds.length
  | [], _, h => by cases h; rfl
  | d :: ds, _, h => by
    cases h with
    | cons _ h2 => simp [dpa_len h2]
theorem dpa_at {K : Fg} {H : Hp} : ∀ {ds : List D} {vs : List V} {i : Nat} {v : V}, RpA K H vs ds → vs[i]? = some v → ∃ d, ds[i]? = some d ∧ Rp K H v d
  | [], _, i, v, h, e => by cases h; simp at e
  | d :: ds, _, i, v, h, e => by
    cases h with
    | cons h1 h2 =>
      cases i with
      | zero => simp at e; subst e; exact ⟨d, rfl, h1⟩
      | succ i =>
        obtain ⟨d', a, b⟩ := dpa_at (i := i) h2 (by simpa using e)
        exact ⟨d', by simpa using a, b⟩
theorem dpa_at' {K : Fg} {H : Hp} {ds : List D} {vs : List V} {i : Nat} {d : D} (h : RpA K H vs ds) (e : ds[i]? = some d) : ∃ v, vs[i]? = some v ∧ Rp K H v d := by
  have hl := dpa_len h
  have hi : i < ds.length := (List.getElem?_eq_some_iff.mp e).1
  have hv : vs[i]? = some (vs[i]'(by omega)) := List.getElem?_eq_getElem (by omega)
  obtain ⟨d', a, b⟩ := dpa_at h hv
  rw [e] at a; cases a
  exact ⟨_, hv, b⟩
theorem dpa_snoc {K : Fg} {H : Hp} : ∀ {ds : List D} {vs : List V} {d : D} {v : V}, RpA K H vs ds → Rp K H v d → RpA K H (vs ++ [v]) (ds ++ [d])
  | [], _, d, v, h, e => by cases h; exact .cons e .nil
  | _ :: ds, _, d, v, h, e => by
    cases h with
    | cons h1 h2 => exact .cons h1 (dpa_snoc h2 e)
theorem dpa_app {K : Fg} {H : Hp} : ∀ {ds es : List D} {vs ws : List V}, RpA K H vs ds → RpA K H ws es → RpA K H (vs ++ ws) (ds ++ es)
  | [], es, _, ws, h, e => by cases h; exact e
  | _ :: ds, es, _, ws, h, e => by
    cases h with
    | cons h1 h2 => exact .cons h1 (dpa_app h2 e)
theorem dpa_rev {K : Fg} {H : Hp} : ∀ {ds : List D} {vs : List V}, RpA K H vs ds → RpA K H vs.reverse ds.reverse
  | [], _, h => by cases h; exact .nil
  | _ :: ds, _, h => by
    cases h with
    | cons h1 h2 => rw [List.reverse_cons, List.reverse_cons]; exact dpa_snoc (dpa_rev h2) h1
theorem dpa_take {K : Fg} {H : Hp} : ∀ {ds : List D} {vs : List V} (n : Nat), RpA K H vs ds → RpA K H (vs.take n) (ds.take n)
  | _, _, 0, _ => by simp; exact .nil
  | [], _, n + 1, h => by cases h; exact .nil
  | _ :: ds, _, n + 1, h => by
    cases h with
    | cons h1 h2 => exact .cons h1 (dpa_take n h2)
theorem dpa_drop {K : Fg} {H : Hp} : ∀ {ds : List D} {vs : List V} (n : Nat), RpA K H vs ds → RpA K H (vs.drop n) (ds.drop n)
  | _, _, 0, h => h
  | [], _, n + 1, h => by cases h; exact .nil
  | _ :: ds, _, n + 1, h => by
    cases h with
    | cons h1 h2 => exact dpa_drop n h2
def iL (ns : List Int) : List D := ns.map .int
theorem dpa_iL {K : Fg} {H : Hp} : ∀ {ns : List Int} {vs : List V}, RpA K H vs (iL ns) → vs = ns.map V.int
  | [], _, h => by cases h; rfl
  | n :: ns, _, h => by
    cases h with
    | cons h1 h2 => cases h1; rw [dpa_iL (ns := ns) h2]; rfl
theorem iL_dpa {K : Fg} {H : Hp} : ∀ (ns : List Int), RpA K H (ns.map V.int) (iL ns)
  | [] => .nil
  | n :: ns => .cons (.int n) (iL_dpa ns)
def bL (bs : List Bool) : List D := bs.map .bool
theorem dpa_bL {K : Fg} {H : Hp} : ∀ {ns : List Bool} {vs : List V}, RpA K H vs (bL ns) → vs = ns.map V.bl
  | [], _, h => by cases h; rfl
  | n :: ns, _, h => by
    cases h with
    | cons h1 h2 => cases h1; rw [dpa_bL (ns := ns) h2]; rfl

/-! ### what a reading gives -/
def EvD (K : Fg) (te : TE) (σ : L2.St) (G H : Hp) (d : D) : Prop := ∀ G1 H1, Wk G H G1 H1 → ∀ Q : VK, (∀ v G2 H2, Wk G1 H1 G2 H2 → Rp K G2 v d → Q v H2) → te σ H1 Q
/-- a value that is no data (a class, an owned object) -/
def EvV (te : TE) (σ : L2.St) (G H : Hp) (v : V) : Prop := ∀ G1 H1, Wk G H G1 H1 → ∀ Q : VK, (∀ G2 H2, Wk G1 H1 G2 H2 → Q v H2) → te σ H1 Q
def EvB (K : Fg) (tt : TT) (σ : L2.St) (G H : Hp) (b : Bool) : Prop := ∀ G1 H1, Wk G H G1 H1 → ∀ Q : Bool → Hp → Prop, (∀ G2 H2, Wk G1 H1 G2 H2 → Q b H2) → tt σ H1 Q
def EvA (K : Fg) (ta : TA) (σ : L2.St) (G H : Hp) (ds : List D) : Prop := ∀ G1 H1, Wk G H G1 H1 → ∀ Q : List V → Hp → Prop, (∀ vs G2 H2, Wk G1 H1 G2 H2 → RpA K G2 vs ds → Q vs H2) → ta σ H1 Q
section
variable {K : Fg} {σ : L2.St} {G H G' H' : Hp} {ta tb te tx : TE} {t u : TT} {d e : D}
theorem EvD.up (w : Wk G H G' H') (h : EvD K te σ G H d) : EvD K te σ G' H' d := fun G1 H1 a Q q => h G1 H1 (w.trans a) Q q
theorem EvV.up {v : V} (w : Wk G H G' H') (h : EvV te σ G H v) : EvV te σ G' H' v := fun G1 H1 a Q q => h G1 H1 (w.trans a) Q q
theorem EvB.up {b : Bool} (w : Wk G H G' H') (h : EvB K t σ G H b) : EvB K t σ G' H' b := fun G1 H1 a Q q => h G1 H1 (w.trans a) Q q
theorem EvA.up {ta : TA} {ds : List D} (w : Wk G H G' H') (h : EvA K ta σ G H ds) : EvA K ta σ G' H' ds := fun G1 H1 a Q q => h G1 H1 (w.trans a) Q q
theorem EvD.to (h : EvD K te σ G H d) (q : d = e) : EvD K te σ G H e := q ▸ h
theorem EvB.to {b c : Bool} (h : EvB K t σ G H b) (q : b = c) : EvB K t σ G H c := q ▸ h
theorem ed_var {i : Nat} {v : V} (h : σ[i]? = some (some v)) (hd : Rp K G v d) : EvD K (tVar i) σ G H d := fun G1 H1 w Q q => ⟨v, h, q v G1 H1 (Wk.refl w.b) (dp_up w.g hd)⟩
theorem ev_var {i : Nat} {v : V} (h : σ[i]? = some (some v)) : EvV (tVar i) σ G H v := fun G1 H1 w Q q => ⟨v, h, q G1 H1 (Wk.refl w.b)⟩
theorem ed_vI {i : Nat} {n : Int} (h : σ[i]? = some (some (.int n))) : EvD K (tVar i) σ G H (.int n) := ed_var h (.int n)
theorem ed_c {v : V} (hd : ∀ G, Rp K G v d) : EvD K (tC v) σ G H d := fun G1 H1 w Q q => q v G1 H1 (Wk.refl w.b) (hd G1)
theorem ev_c {v : V} : EvV (tC v) σ G H v := fun G1 H1 w Q q => q G1 H1 (Wk.refl w.b)
theorem ed_int {n : Int} : EvD K (tC (.int n)) σ G H (.int n) := ed_c fun _ => .int n
theorem ed_bl {b : Bool} : EvD K (tC (.bl b)) σ G H (.bool b) := ed_c fun _ => .bl b
theorem ed_non : EvD K (tC .non) σ G H .none := ed_c fun _ => .non
theorem ed_str {s : Str} : EvD K (tC (.str s)) σ G H (.str s) := ed_c fun _ => .str s
/-- two in a row -/
theorem ed_two {R : V → V → Hp → VK → Prop} {f : D} (ha : EvD K ta σ G H d) (hb : EvD K tb σ G H e)
    (hr : ∀ x y G1 H1, Wk G H G1 H1 → Rp K G1 x d → Rp K G1 y e → ∀ Q : VK, (∀ v G2 H2, Wk G1 H1 G2 H2 → Rp K G2 v f → Q v H2) → R x y H1 Q) : EvD K (tOp R ta tb) σ G H f := fun G1 H1 w Q q =>
  ha G1 H1 w _ fun x G2 H2 w2 hx => hb G2 H2 (w.trans w2) _ fun y G3 H3 w3 hy => hr x y G3 H3 ((w.trans w2).trans w3) (dp_up w3.g hx) hy Q fun v G4 H4 w4 hv => q v G4 H4 ((w2.trans w3).trans w4) hv
theorem ed_I0 {g : Int → Int → V} {f : D} {i j : Int} (ha : EvD K ta σ G H (.int i)) (hb : EvD K tb σ G H (.int j)) (hg : ∀ G, Rp K G (g i j) f) : EvD K (tOp (rI0 g) ta tb) σ G H f :=
  ed_two ha hb fun x y G1 H1 w hx hy Q q => by
    cases hx; cases hy
    exact ⟨i, j, rfl, rfl, q _ G1 H1 (Wk.refl w.b) (hg G1)⟩
theorem ed_I {C : Int → Int → Prop} {g : Int → Int → V} {f : D} {i j : Int} (ha : EvD K ta σ G H (.int i)) (hb : EvD K tb σ G H (.int j)) (hc : C i j) (hg : ∀ G, Rp K G (g i j) f) : EvD K (tOp (rI C g) ta tb) σ G H f :=
  ed_two ha hb fun x y G1 H1 w hx hy Q q => by
    cases hx; cases hy
    exact ⟨i, j, rfl, rfl, hc, q _ G1 H1 (Wk.refl w.b) (hg G1)⟩
theorem ed_add {i j : Int} (ha : EvD K ta σ G H (.int i)) (hb : EvD K tb σ G H (.int j)) : EvD K (tOp (rI0 fun i j => .int (i + j)) ta tb) σ G H (.int (i + j)) := ed_I0 ha hb fun _ => .int _
theorem ed_sub {i j : Int} (ha : EvD K ta σ G H (.int i)) (hb : EvD K tb σ G H (.int j)) : EvD K (tOp (rI0 fun i j => .int (i - j)) ta tb) σ G H (.int (i - j)) := ed_I0 ha hb fun _ => .int _
theorem ed_mul {i j : Int} (ha : EvD K ta σ G H (.int i)) (hb : EvD K tb σ G H (.int j)) (hc : CMul i j) : EvD K (tOp (rI CMul fun i j => .int (i * j)) ta tb) σ G H (.int (i * j)) := ed_I ha hb hc fun _ => .int _
theorem ed_mod {i j : Int} (ha : EvD K ta σ G H (.int i)) (hb : EvD K tb σ G H (.int j)) (hc : j ≠ 0) : EvD K (tOp (rI (fun _ j => j ≠ 0) fun i j => .int (i.fmod j)) ta tb) σ G H (.int (i.fmod j)) := ed_I (C := fun _ j => j ≠ 0) ha hb hc fun _ => .int _
theorem ed_div {i j : Int} (ha : EvD K ta σ G H (.int i)) (hb : EvD K tb σ G H (.int j)) (hc : CDivN i j) : EvD K (tOp (rI CDivN fun i j => .int (i.fdiv j)) ta tb) σ G H (.int (i.fdiv j)) := ed_I ha hb hc fun _ => .int _
theorem ed_pow {i j : Int} (ha : EvD K ta σ G H (.int i)) (hb : EvD K tb σ G H (.int j)) (hc : CPow i j) : EvD K (tOp (rI CPow fun i j => .int (i ^ j.toNat)) ta tb) σ G H (.int (i ^ j.toNat)) := ed_I ha hb hc fun _ => .int _
theorem ed_neg {i : Int} (ha : EvD K ta σ G H (.int i)) : EvD K (tUn (rU fun i => .int (-i)) ta) σ G H (.int (-i)) := fun G1 H1 w Q q =>
  ha G1 H1 w _ fun x G2 H2 w2 hx => by
    cases hx
    exact ⟨i, rfl, q _ G2 H2 w2 (.int _)⟩
theorem ed_lt {i j : Int} (ha : EvD K ta σ G H (.int i)) (hb : EvD K tb σ G H (.int j)) : EvD K (tOp (rI0 fun i j => .bl (decide (i < j))) ta tb) σ G H (.bool (decide (i < j))) := ed_I0 ha hb fun _ => .bl _
theorem ed_le {i j : Int} (ha : EvD K ta σ G H (.int i)) (hb : EvD K tb σ G H (.int j)) : EvD K (tOp (rI0 fun i j => .bl (decide (i ≤ j))) ta tb) σ G H (.bool (decide (i ≤ j))) := ed_I0 ha hb fun _ => .bl _
theorem ed_gt {i j : Int} (ha : EvD K ta σ G H (.int i)) (hb : EvD K tb σ G H (.int j)) : EvD K (tOp (rI0 fun i j => .bl (decide (j < i))) ta tb) σ G H (.bool (decide (j < i))) := ed_I0 ha hb fun _ => .bl _
theorem ed_ge {i j : Int} (ha : EvD K ta σ G H (.int i)) (hb : EvD K tb σ G H (.int j)) : EvD K (tOp (rI0 fun i j => .bl (decide (j ≤ i))) ta tb) σ G H (.bool (decide (j ≤ i))) := ed_I0 ha hb fun _ => .bl _
/-- == and != of any data -/
theorem ed_eq (ha : EvD K ta σ G H d) (hb : EvD K tb σ G H e) (sd : SeqAt.shaped d = true) (se : SeqAt.shaped e = true) : EvD K (tOp (rEqD K) ta tb) σ G H (.bool (PyData.eqv d e)) :=
  ed_two ha hb fun x y G1 H1 w hx hy Q q => ⟨d, e, rp_sh (dp_up w.b hx) sd, rp_sh (dp_up w.b hy) se, sd, se, q _ G1 H1 (Wk.refl w.b) (.bl _)⟩
theorem ed_ne (ha : EvD K ta σ G H d) (hb : EvD K tb σ G H e) (sd : SeqAt.shaped d = true) (se : SeqAt.shaped e = true) : EvD K (tOp (rNeD K) ta tb) σ G H (.bool (!PyData.eqv d e)) :=
  ed_two ha hb fun x y G1 H1 w hx hy Q q => ⟨d, e, rp_sh (dp_up w.b hx) sd, rp_sh (dp_up w.b hy) se, sd, se, q _ G1 H1 (Wk.refl w.b) (.bl _)⟩
theorem ed_eqI {i j : Int} (ha : EvD K ta σ G H (.int i)) (hb : EvD K tb σ G H (.int j)) : EvD K (tOp (rEqD K) ta tb) σ G H (.bool (i == j)) := ed_eq ha hb rfl rfl
theorem ed_neI {i j : Int} (ha : EvD K ta σ G H (.int i)) (hb : EvD K tb σ G H (.int j)) : EvD K (tOp (rNeD K) ta tb) σ G H (.bool (!(i == j))) := ed_ne ha hb rfl rfl
/-! tests -/
theorem eb_test {b : Bool} (h : EvD K te σ G H (.bool b)) : EvB K (tTest te) σ G H b := fun G1 H1 w Q q => h G1 H1 w _ fun v G2 H2 w2 hv => by
  cases hv
  exact ⟨b, rfl, q G2 H2 w2⟩
theorem eb_val {b : Bool} (h : EvD K te σ G H (.bool b)) : EvB K (tB te) σ G H b := fun G1 H1 w Q q => h G1 H1 w _ fun v G2 H2 w2 hv => by
  cases hv
  exact ⟨b, rfl, q G2 H2 w2⟩
theorem eb_and {a b : Bool} (h1 : EvB K t σ G H a) (h2 : a = true → EvB K u σ G H b) : EvB K (tAnd t u) σ G H (a && b) := fun G1 H1 w Q q => h1 G1 H1 w _ fun G2 H2 w2 => by
  cases a with
  | true =>
    show u σ H2 Q
    exact h2 rfl G2 H2 (w.trans w2) Q fun G3 H3 w3 => q G3 H3 (w2.trans w3)
  | false => exact q G2 H2 w2
theorem eb_or {a b : Bool} (h1 : EvB K t σ G H a) (h2 : a = false → EvB K u σ G H b) : EvB K (tOr t u) σ G H (a || b) := fun G1 H1 w Q q => h1 G1 H1 w _ fun G2 H2 w2 => by
  cases a with
  | true => exact q G2 H2 w2
  | false =>
    show u σ H2 Q
    exact h2 rfl G2 H2 (w.trans w2) Q fun G3 H3 w3 => q G3 H3 (w2.trans w3)
theorem eb_not {a : Bool} (h1 : EvB K t σ G H a) : EvB K (tNot t) σ G H (!a) := fun G1 H1 w Q q => h1 G1 H1 w _ fun G2 H2 w2 => q G2 H2 w2
theorem eb_tru {ta : TE} {r : V → Hp → (Bool → Hp → Prop) → Prop} {b : Bool} (ha : EvD K ta σ G H d) (hr : ∀ x G1 H1, Same G1 H1 → Rp K G1 x d → ∀ Q : Bool → Hp → Prop, Q b H1 → r x H1 Q) : EvB K (fun σ H Q => ta σ H fun x H' => r x H' Q) σ G H b := fun G1 H1 w Q q =>
  ha G1 H1 w _ fun x G2 H2 w2 hx => hr x G2 H2 w2.b hx Q (q G2 H2 w2)
/-- values of and, or, not over truth values -/
theorem ed_andV {a b : Bool} (h1 : EvD K ta σ G H (.bool a)) (h2 : a = true → EvD K tb σ G H (.bool b)) : EvD K (tAndV ta tb) σ G H (.bool (a && b)) := fun G1 H1 w Q q => h1 G1 H1 w _ fun v G2 H2 w2 hv => by
  cases hv
  refine ⟨a, rfl, ?_⟩
  cases a with
  | true =>
    show tb σ H2 Q
    exact h2 rfl G2 H2 (w.trans w2) Q fun v G3 H3 w3 hv => q v G3 H3 (w2.trans w3) hv
  | false => exact q _ G2 H2 w2 (.bl _)
theorem ed_orV {a b : Bool} (h1 : EvD K ta σ G H (.bool a)) (h2 : a = false → EvD K tb σ G H (.bool b)) : EvD K (tOrV ta tb) σ G H (.bool (a || b)) := fun G1 H1 w Q q => h1 G1 H1 w _ fun v G2 H2 w2 hv => by
  cases hv
  refine ⟨a, rfl, ?_⟩
  cases a with
  | true => exact q _ G2 H2 w2 (.bl _)
  | false =>
    show tb σ H2 Q
    exact h2 rfl G2 H2 (w.trans w2) Q fun v G3 H3 w3 hv => q v G3 H3 (w2.trans w3) hv
theorem ed_notV {a : Bool} (h1 : EvD K ta σ G H (.bool a)) : EvD K (tNotV ta) σ G H (.bool (!a)) := fun G1 H1 w Q q => h1 G1 H1 w _ fun v G2 H2 w2 hv => by
  cases hv
  exact ⟨a, rfl, q _ G2 H2 w2 (.bl _)⟩
theorem ed_if {b : Bool} (h : EvB K t σ G H b) (h1 : b = true → EvD K ta σ G H d) (h2 : b = false → EvD K tb σ G H e) : EvD K (tIf t ta tb) σ G H (if b = true then d else e) := fun G1 H1 w Q q => h G1 H1 w _ fun G2 H2 w2 => by
  cases b with
  | true =>
    show ta σ H2 Q
    exact h1 rfl G2 H2 (w.trans w2) Q fun v G3 H3 w3 hv => q v G3 H3 (w2.trans w3) hv
  | false =>
    show tb σ H2 Q
    exact h2 rfl G2 H2 (w.trans w2) Q fun v G3 H3 w3 hv => q v G3 H3 (w2.trans w3) hv
/-! rows of expressions, displays -/
theorem ea_nil : EvA K tNil σ G H [] := fun G1 H1 w Q q => q [] G1 H1 (Wk.refl w.b) .nil
theorem ea_cons {tr : TA} {ds : List D} (h : EvD K te σ G H d) (hr : EvA K tr σ G H ds) : EvA K (tCons te tr) σ G H (d :: ds) := fun G1 H1 w Q q =>
  h G1 H1 w _ fun v G2 H2 w2 hv => hr G2 H2 (w.trans w2) _ fun vs G3 H3 w3 hvs => q _ G3 H3 (w2.trans w3) (.cons (dp_up w3.g hv) hvs)
theorem sz_ok {n : Nat} (h : n ≤ 16777216) : n ≤ sizeLine := h
theorem ed_tup {ta : TA} {ds : List D} (h : EvA K ta σ G H ds) (hl : ds.length ≤ 1000000 := by exact Nat.le_of_ble_eq_true rfl) : EvD K (tTup ta) σ G H (.tuple ds) := fun G1 H1 w Q q =>
  h G1 H1 w _ fun vs G2 H2 w2 hv => ⟨Nat.le_trans (Nat.le_of_eq (dpa_len hv)) (Nat.le_trans hl (by decide)), fun p hp => q _ _ _ (w2.trans (Wk.new w2.b hp)) (.tup (SqT.of upd_same) (dpa_up (Wk.new w2.b hp).g hv))⟩
theorem ed_lst {ta : TA} {ds : List D} (h : EvA K ta σ G H ds) (hl : ds.length ≤ 1000000 := by exact Nat.le_of_ble_eq_true rfl) : EvD K (tLst ta) σ G H (.list ds) := fun G1 H1 w Q q =>
  h G1 H1 w _ fun vs G2 H2 w2 hv => ⟨Nat.le_trans (Nat.le_of_eq (dpa_len hv)) (Nat.le_trans hl (by decide)), fun p hp => q _ _ _ (w2.trans (Wk.new w2.b hp)) (.lst (SqL.of upd_same) (dpa_up (Wk.new w2.b hp).g hv))⟩
end
end L3
namespace L3
open PySem PySem.Spec PyProof.Rows L2
/-! ### promises over data -/
/-- called with n trees: R tells the answer, or the class of what is raised -/
def spR (K : Fg) (n : Nat) (R : List D → Except Addr D → Prop) : Sp := fun vs H Q E => ∃ (G : Hp) (ds : List D) (r : Except Addr D), Same G H ∧ RpA K G vs ds ∧ ds.length = n ∧ R ds r ∧
  match r with
  | .ok d => ∀ v G1 H1, Wk G H G1 H1 → Rp K G1 v d → Q v H1
  | .error C => ∀ H1, Same H H1 → E (.ref C) none H1
theorem spR_len {K : Fg} {n : Nat} {R : List D → Except Addr D → Prop} : ∀ vs H Q E, spR K n R vs H Q E → vs.length = n := fun vs H Q E h => by
  obtain ⟨G, ds, r, _, h1, h2, _⟩ := h
  rw [dpa_len h1, h2]
section
variable {K : Fg} {σ : L2.St} {G H G' H' : Hp} {ta tb te tx tl : TE} {t u : TT} {d e : D}
theorem ed_call {n : Nat} {R : List D → Except Addr D → Prop} {E : XK} {a : TA} {ds : List D} (ha : EvA K a σ G H ds) (hn : ds.length = n) (hr : R ds (.ok d)) : EvD K (tCall (spR K n R) [] E a) σ G H d := fun G1 H1 w Q q =>
  ha G1 H1 w _ fun vs G2 H2 w2 hv => by
    rw [List.append_nil]
    exact ⟨G2, ds, _, w2.b, hv, hn, hr, fun v G3 H3 w3 h => q v G3 H3 (w2.trans w3) h⟩
theorem ed_callS {n : Nat} {R : List D → Except Addr D → Prop} {E : L2.St → XK} {a : TA} {ds : List D} (ha : EvA K a σ G H ds) (hn : ds.length = n) (hr : R ds (.ok d)) : EvD K (tCallS (spR K n R) E a) σ G H d := fun G1 H1 w Q q =>
  ha G1 H1 w _ fun vs G2 H2 w2 hv => ⟨G2, ds, _, w2.b, hv, hn, hr, fun v G3 H3 w3 h => q v G3 H3 (w2.trans w3) h⟩
/-- a call that raises -/
theorem ex_call {n : Nat} {R : List D → Except Addr D → Prop} {E : XK} {a : TA} {ds : List D} {C : Addr} {Q : VK} (b : Same G H) (ha : EvA K a σ G H ds) (hn : ds.length = n) (hr : R ds (.error C)) (hE : ∀ H1, Same H H1 → E (.ref C) none H1) : tCall (spR K n R) [] E a σ H Q :=
  ha G H (Wk.refl b) _ fun vs G2 H2 w2 hv => by
    rw [List.append_nil]
    exact ⟨G2, ds, _, w2.b, hv, hn, hr, fun H3 w3 => hE H3 (w2.h.trans w3)⟩
theorem ex_callS {n : Nat} {R : List D → Except Addr D → Prop} {E : L2.St → XK} {a : TA} {ds : List D} {C : Addr} {Q : VK} (b : Same G H) (ha : EvA K a σ G H ds) (hn : ds.length = n) (hr : R ds (.error C)) (hE : ∀ H1, Same H H1 → E σ (.ref C) none H1) : tCallS (spR K n R) E a σ H Q :=
  ha G H (Wk.refl b) _ fun vs G2 H2 w2 hv => ⟨G2, ds, _, w2.b, hv, hn, hr, fun H3 w3 => hE H3 (w2.h.trans w3)⟩
/-! ### built-ins -/
theorem rpa1 {xs : List V} (h : RpA K G xs [d]) : ∃ x, xs = [x] ∧ Rp K G x d := by
  cases h with
  | cons h1 h2 => cases h2; exact ⟨_, rfl, h1⟩
theorem ed_b1 {r : List V → Hp → VK → Prop} {f : D} (ha : EvD K ta σ G H d) (hr : ∀ x G1 H1, Wk G H G1 H1 → Rp K G1 x d → ∀ Q : VK, (∀ v G2 H2, Wk G1 H1 G2 H2 → Rp K G2 v f → Q v H2) → r [x] H1 Q) : EvD K (tCB r (tCons ta tNil)) σ G H f := fun G1 H1 w Q q =>
  ha G1 H1 w _ fun x G2 H2 w2 hx => hr x G2 H2 (w.trans w2) hx Q fun v G3 H3 w3 hv => q v G3 H3 (w2.trans w3) hv
abbrev rLen (K : Fg) : List V → Hp → VK → Prop := fun xs H Q => ∃ p ys, xs = [V.ref p] ∧ (SqL K H p ys ∨ SqT K H p ys) ∧ Q (.int ys.length) H
theorem ed_lenL {ds : List D} (ha : EvD K ta σ G H (.list ds)) : EvD K (tCB (rLen K) (tCons ta tNil)) σ G H (.int ds.length) :=
  ed_b1 ha fun x G1 H1 w hx Q q => by
    cases hx with
    | lst hs hl => exact ⟨_, _, rfl, .inl (sql_up w.b hs), q _ _ _ (Wk.refl w.b) (by rw [dpa_len hl]; exact .int _)⟩
theorem ed_lenT {ds : List D} (ha : EvD K ta σ G H (.tuple ds)) : EvD K (tCB (rLen K) (tCons ta tNil)) σ G H (.int ds.length) :=
  ed_b1 ha fun x G1 H1 w hx Q q => by
    cases hx with
    | tup hs hl => exact ⟨_, _, rfl, .inr (sqt_up w.b hs), q _ _ _ (Wk.refl w.b) (by rw [dpa_len hl]; exact .int _)⟩
abbrev rAbs : List V → Hp → VK → Prop := fun xs H Q => ∃ i, xs = [V.int i] ∧ Q (.int (if i < 0 then -i else i)) H
theorem ed_abs {i : Int} (ha : EvD K ta σ G H (.int i)) : EvD K (tCB rAbs (tCons ta tNil)) σ G H (.int (if i < 0 then -i else i)) :=
  ed_b1 ha fun x G1 H1 w hx Q q => by
    cases hx
    exact ⟨i, rfl, q _ _ _ (Wk.refl w.b) (.int _)⟩
abbrev rInt : List V → Hp → VK → Prop := fun xs H Q => (∃ i, xs = [V.int i] ∧ Q (.int i) H) ∨ ∃ k, xs = [V.bl k] ∧ Q (.int (if k then 1 else 0)) H
theorem ed_toint {i : Int} (ha : EvD K ta σ G H (.int i)) : EvD K (tCB rInt (tCons ta tNil)) σ G H (.int i) :=
  ed_b1 ha fun x G1 H1 w hx Q q => by
    cases hx
    exact .inl ⟨i, rfl, q _ _ _ (Wk.refl w.b) (.int _)⟩
theorem ed_sum {ns : List Int} (ha : EvD K ta σ G H (.list (iL ns))) : EvD K (tCB (rSum K) (tCons ta tNil)) σ G H (.int ns.sum) :=
  ed_b1 ha fun x G1 H1 w hx Q q => by
    cases hx with
    | lst hs hl => exact ⟨_, ns, rfl, dpa_iL hl ▸ sql_up w.b hs, q _ _ _ (Wk.refl w.b) (.int _)⟩
theorem ed_all {bs : List Bool} (ha : EvD K ta σ G H (.list (bL bs))) : EvD K (tCB (rAll K) (tCons ta tNil)) σ G H (.bool (bs.all id)) :=
  ed_b1 ha fun x G1 H1 w hx Q q => by
    cases hx with
    | lst hs hl => exact ⟨_, bs, rfl, dpa_bL hl ▸ sql_up w.b hs, q _ _ _ (Wk.refl w.b) (.bl _)⟩
theorem ed_any {bs : List Bool} (ha : EvD K ta σ G H (.list (bL bs))) : EvD K (tCB (rAny K) (tCons ta tNil)) σ G H (.bool (bs.any id)) :=
  ed_b1 ha fun x G1 H1 w hx Q q => by
    cases hx with
    | lst hs hl => exact ⟨_, bs, rfl, dpa_bL hl ▸ sql_up w.b hs, q _ _ _ (Wk.refl w.b) (.bl _)⟩
theorem ed_gcd {i j : Int} (ha : EvD K ta σ G H (.int i)) (hb : EvD K tb σ G H (.int j)) : EvD K (tCB rGcd (tCons ta (tCons tb tNil))) σ G H (.int ((Nat.gcd i.natAbs j.natAbs : Nat) : Int)) := fun G1 H1 w Q q =>
  ha G1 H1 w _ fun x G2 H2 w2 hx => hb G2 H2 (w.trans w2) _ fun y G3 H3 w3 hy => by
    cases hx; cases hy
    exact ⟨i, j, rfl, q _ _ _ (w2.trans w3) (.int _)⟩
/-- the name of a tree's type -/
def tyN : D → String
  | .none => "NoneType"
  | .bool _ => "bool"
  | .int _ => "int"
  | .str _ => "str"
  | .list _ => "list"
  | .tuple _ => "tuple"
  | .dict _ => "dict"
theorem rp_ty {x : V} (b : Same G H) (h : Rp K G x d) : TyX K H x (.type (tyN d)) := by
  cases h with
  | non => exact .base .non
  | bl k => exact .base (.bl k)
  | int i => exact .base (.int i)
  | str s => exact .base (.str s)
  | lst hs _ =>
    rcases hs with (h | ⟨o, h⟩) | ⟨o, its, n, h1, h2, _⟩
    · exact .base (.lst (b _ _ h))
    · exact .base (.frz (b _ _ h))
    · exact .kList h1 h2
  | tup hs _ =>
    rcases hs with (h | ⟨o, h⟩) | ⟨o, its, n, h1, h2, _⟩
    · exact .base (.tup (b _ _ h))
    · exact .fTuple (b _ _ h)
    · exact .kTuple h1 h2
  | dct hs _ => exact .fDict (b _ _ hs)
theorem ed_isi {T : String} {k : Bool} (ha : EvD K ta σ G H d) (hk : kitB (tyN d) T = some k) : EvD K (tCB (rIsi K) (tCons ta (tCons (tC (.ty T)) tNil))) σ G H (.bool k) := fun G1 H1 w Q q =>
  ha G1 H1 w _ fun x G2 H2 w2 hx => ⟨x, .ty T, _, .type T, k, rfl, .ty T, rp_ty w2.b hx, kit_ty hk, q _ _ _ w2 (.bl _)⟩
/-- isinstance(x, (S, T)) -/
theorem ed_isi2 {S T : String} {k m : Bool} (ha : EvD K ta σ G H d) (hk : kitB (tyN d) S = some k) (hm : kitB (tyN d) T = some m) : EvD K (tCB (rIsiT K) (tCons ta (tCons (tTup (tCons (tC (.ty S)) (tCons (tC (.ty T)) tNil))) tNil))) σ G H (.bool (k || m)) := fun G1 H1 w Q q =>
  ha G1 H1 w _ fun x G2 H2 w2 hx => ⟨by show 2 ≤ sizeLine; decide, fun p hp => by
    refine ⟨x, p, _, _, [.type S, .type T], (k || m), rfl, upd_same, .cons (.ty S) (.cons (.ty T) .nil), rp_ty (Wk.new w2.b hp).b (dp_up (Wk.new w2.b hp).g hx), ?_, q _ _ _ (w2.trans (Wk.new w2.b hp)) (.bl _)⟩
    refine kitAny_cons (kit_ty hk) (fun e => ?_) (fun e => by rw [e]; rfl)
    refine kitAny_cons (kit_ty hm) (fun e2 => by rw [e, e2]; exact kitAny_nil) (fun e2 => by rw [e, e2]; rfl)⟩
abbrev rListOf (K : Fg) : List V → Hp → VK → Prop := fun xs H Q => ∃ p ys, xs = [V.ref p] ∧ (SqL K H p ys ∨ SqT K H p ys) ∧ ∀ l, H l = none → Q (.ref l) (upd H l (.lst ys))
abbrev rTupOf (K : Fg) : List V → Hp → VK → Prop := fun xs H Q => ∃ p ys, xs = [V.ref p] ∧ ((SqL K H p ys ∧ ∀ l, H l = none → Q (.ref l) (upd H l (.tup ys))) ∨ (SqT K H p ys ∧ Q (.ref p) H))
theorem ed_listT {ds : List D} (ha : EvD K ta σ G H (.tuple ds)) : EvD K (tCB (rListOf K) (tCons ta tNil)) σ G H (.list ds) :=
  ed_b1 ha fun x G1 H1 w hx Q q => by
    cases hx with
    | tup hs hl => exact ⟨_, _, rfl, .inr (sqt_up w.b hs), fun l hl' => q _ _ _ (Wk.new w.b hl') (.lst (SqL.of upd_same) (dpa_up (Wk.new w.b hl').g hl))⟩
theorem ed_listL {ds : List D} (ha : EvD K ta σ G H (.list ds)) : EvD K (tCB (rListOf K) (tCons ta tNil)) σ G H (.list ds) :=
  ed_b1 ha fun x G1 H1 w hx Q q => by
    cases hx with
    | lst hs hl => exact ⟨_, _, rfl, .inl (sql_up w.b hs), fun l hl' => q _ _ _ (Wk.new w.b hl') (.lst (SqL.of upd_same) (dpa_up (Wk.new w.b hl').g hl))⟩
theorem ed_tupL {ds : List D} (ha : EvD K ta σ G H (.list ds)) : EvD K (tCB (rTupOf K) (tCons ta tNil)) σ G H (.tuple ds) :=
  ed_b1 ha fun x G1 H1 w hx Q q => by
    cases hx with
    | lst hs hl => exact ⟨_, _, rfl, .inl ⟨sql_up w.b hs, fun l hl' => q _ _ _ (Wk.new w.b hl') (.tup (SqT.of upd_same) (dpa_up (Wk.new w.b hl').g hl))⟩⟩
theorem ed_tupT {ds : List D} (ha : EvD K ta σ G H (.tuple ds)) : EvD K (tCB (rTupOf K) (tCons ta tNil)) σ G H (.tuple ds) :=
  ed_b1 ha fun x G1 H1 w hx Q q => by
    cases hx with
    | tup hs hl => exact ⟨_, _, rfl, .inr ⟨sqt_up w.b hs, q _ _ _ (Wk.refl w.b) (.tup hs hl)⟩⟩
/-! ### places, slices, sums -/
theorem atI_rp {xs : List V} {ds : List D} {i : Int} (h : RpA K G xs ds) (e : atI ds i = some d) : ∃ v, atI xs i = some v ∧ Rp K G v d := by
  unfold atI at e ⊢
  rw [dpa_len h]
  cases q : ixN ds.length i with
  | none => rw [q] at e; cases e
  | some j =>
    rw [q] at e
    exact dpa_at' h e
theorem ed_ixL {ds : List D} {i : Int} (ha : EvD K ta σ G H (.list ds)) (hb : EvD K tb σ G H (.int i)) (hi : atI ds i = some d) : EvD K (tOp (rIxL K) ta tb) σ G H d :=
  ed_two ha hb fun x y G1 H1 w hx hy Q q => by
    cases hy
    cases hx with
    | lst hs hl =>
      obtain ⟨v, e, r⟩ := atI_rp hl hi
      exact ⟨_, _, i, v, rfl, rfl, sql_up w.b hs, e, q _ _ _ (Wk.refl w.b) r⟩
theorem ed_ixT {ds : List D} {i : Int} (ha : EvD K ta σ G H (.tuple ds)) (hb : EvD K tb σ G H (.int i)) (hi : atI ds i = some d) : EvD K (tOp (rIxT K) ta tb) σ G H d :=
  ed_two ha hb fun x y G1 H1 w hx hy Q q => by
    cases hy
    cases hx with
    | tup hs hl =>
      obtain ⟨v, e, r⟩ := atI_rp hl hi
      exact ⟨_, _, i, v, rfl, rfl, sqt_up w.b hs, e, q _ _ _ (Wk.refl w.b) r⟩
/-- xs[k], a list or a tuple -/
def rIx2 (K : Fg) : R2 := fun x y H Q => rIxL K x y H Q ∨ rIxT K x y H Q
theorem ix_two {X : Cx} : IxR X (rIx2 X.K) := IxR.or ix_list ix_tup
theorem ed_ix2L {ds : List D} {i : Int} (ha : EvD K ta σ G H (.list ds)) (hb : EvD K tb σ G H (.int i)) (hi : atI ds i = some d) : EvD K (tOp (rIx2 K) ta tb) σ G H d :=
  fun G1 H1 w Q q => by
    refine ha G1 H1 w _ fun x G2 H2 w2 hx => hb G2 H2 (w.trans w2) _ fun y G3 H3 w3 hy => .inl ?_
    cases hy
    cases hx with
    | lst hs hl =>
      obtain ⟨v, e, r⟩ := atI_rp hl hi
      exact ⟨_, _, i, v, rfl, rfl, sql_up (w3.g.trans w3.b) hs, e, q _ _ _ (w2.trans w3) (dp_up w3.g r)⟩
theorem ed_ix2T {ds : List D} {i : Int} (ha : EvD K ta σ G H (.tuple ds)) (hb : EvD K tb σ G H (.int i)) (hi : atI ds i = some d) : EvD K (tOp (rIx2 K) ta tb) σ G H d :=
  fun G1 H1 w Q q => by
    refine ha G1 H1 w _ fun x G2 H2 w2 hx => hb G2 H2 (w.trans w2) _ fun y G3 H3 w3 hy => .inr ?_
    cases hy
    cases hx with
    | tup hs hl =>
      obtain ⟨v, e, r⟩ := atI_rp hl hi
      exact ⟨_, _, i, v, rfl, rfl, sqt_up (w3.g.trans w3.b) hs, e, q _ _ _ (w2.trans w3) (dp_up w3.g r)⟩
theorem ed_revL {ds : List D} (ha : EvD K ta σ G H (.list ds)) : EvD K (tRevL K ta) σ G H (.list ds.reverse) := fun G1 H1 w Q q =>
  ha G1 H1 w _ fun x G2 H2 w2 hx => by
    cases hx with
    | lst hs hl => exact ⟨_, _, rfl, sql_up w2.b hs, fun p hp => q _ _ _ (w2.trans (Wk.new w2.b hp)) (.lst (SqL.of upd_same) (dpa_rev (dpa_up (Wk.new w2.b hp).g hl)))⟩
theorem ed_catT {ds es : List D} (ha : EvD K ta σ G H (.tuple ds)) (hb : EvD K tb σ G H (.tuple es)) (hz : ds.length + es.length ≤ 1000000) : EvD K (tOp (rCatA K) ta tb) σ G H (.tuple (ds ++ es)) :=
  ed_two ha hb fun x y G1 H1 w hx hy Q q => by
    cases hx with
    | tup hs hl =>
      cases hy with
      | tup hs2 hl2 =>
        refine ⟨_, _, _, _, rfl, rfl, sqt_up w.b hs, sqt_up w.b hs2, ?_, fun e => ?_, fun e e2 => ?_, fun e e2 p hp => ?_⟩
        · rw [dpa_len hl, dpa_len hl2]; exact Nat.le_trans hz (by decide)
        · subst e
          have : ds = [] := by cases hl; rfl
          subst this
          exact q _ _ _ (Wk.refl w.b) (.tup hs2 hl2)
        · subst e2
          have : es = [] := by cases hl2; rfl
          subst this
          rw [List.append_nil] at q
          exact q _ _ _ (Wk.refl w.b) (.tup hs hl)
        · exact q _ _ _ (Wk.new w.b hp) (.tup (SqT.of upd_same) (dpa_app (dpa_up (Wk.new w.b hp).g hl) (dpa_up (Wk.new w.b hp).g hl2)))
end
end L3
namespace L3
open PySem PySem.Spec PyProof.Rows L2
section
variable {K : Fg} {σ : L2.St} {G H G' H' : Hp} {ta tb te tx tl : TE} {tt : TT} {d e : D}
/-! ### comprehensions -/
/-- one turn: the target takes v, leaving σ2 -/
def Turn1 (K : Fg) (g : TG) (tt : TT) (te : TE) (σ : L2.St) (vs : List Nat) (G H : Hp) (v : V) (p : Bool) (f : D) : Prop :=
  ∃ σ2, (∀ Q : L2.St → Hp → Prop, Q σ2 H → g v (wipe σ vs) H Q) ∧ wipe σ2 vs = wipe σ vs ∧ EvB K tt σ2 G H p ∧ (p = true → EvD K te σ2 G H f)
def lcP (K : Fg) (G H : Hp) (Dl : Addr) (H' : Hp) (out : List D) : Prop := ∃ (G' : Hp) (acc : List V), Wk G H G' H' ∧ G' Dl = none ∧ H' Dl = some (.lst acc) ∧ RpA K G' acc out
theorem lc_turn {g : TG} {vs : List Nat} {Dl : Addr} {H1 : Hp} {out : List D} {v : V} {p : Bool} {f : D} (h0 : H Dl = none) (hp : lcP K G H Dl H1 out) (hl : out.length < 1000000)
    (hv : ∀ G1, Wk G H G1 H1 → RpA K G1 [] [] → Turn1 K g tt te σ vs G1 H1 v p f) {Nx : Hp → Prop} (hN : ∀ H', lcP K G H Dl H' (if p = true then out ++ [f] else out) → Nx H') :
    g v (wipe σ vs) H1 fun σ2 H2 => wipe σ2 vs = wipe σ vs ∧ tt σ2 H2 fun b H3 => if b = true then te σ2 H3 fun y H4 => ∃ acc, H4 Dl = some (.lst acc) ∧ acc.length < sizeLine ∧ Nx (upd H4 Dl (.lst (acc ++ [y]))) else Nx H3 := by
  obtain ⟨G1, acc, w, gd, hd, hr⟩ := hp
  obtain ⟨σ2, hg, hw, ht, he⟩ := hv G1 w .nil
  refine hg _ ⟨hw, ht G1 H1 (Wk.refl w.b) _ fun G2 H2 w2 => ?_⟩
  have k2 := w2.keep hd gd
  cases p with
  | false => exact hN H2 ⟨G2, acc, w.trans w2, k2.2, k2.1, dpa_up w2.g hr⟩
  | true =>
    show te σ2 H2 _
    refine he rfl G2 H2 w2 _ fun y G3 H3 w3 hy => ?_
    have k3 := w3.keep k2.1 k2.2
    refine ⟨acc, k3.1, by rw [dpa_len hr]; exact Nat.lt_of_lt_of_le hl (by decide), hN _ ⟨G3, _, Wk.mut ((w.trans w2).trans w3) h0 k3.2, k3.2, upd_same, dpa_snoc (dpa_up (w2.g.trans w3.g) hr) hy⟩⟩
theorem lc_end {Dl : Addr} {H1 : Hp} {out : List D} (h0 : H Dl = none) (hp : lcP K G H Dl H1 out) {Q : VK} (q : ∀ v G2 H2, Wk G H G2 H2 → Rp K G2 v (.list out) → Q v H2) : Q (.ref Dl) H1 := by
  obtain ⟨G1, acc, w, gd, hd, hr⟩ := hp
  have w2 := w.freeze h0 gd hd
  refine q _ _ _ w2 (.lst (SqL.of upd_same) (dpa_up (fun b o e => ?_) hr))
  rw [upd_ne (ne_of_none e gd)]; exact e
/-- the outcome -/
def fm (p : D → Bool) (f : D → D) (ds : List D) : List D := (ds.filter p).map f
theorem fm_snoc {p : D → Bool} {f : D → D} {ds : List D} {i : Nat} (h : ds[i]? = some d) : fm p f (ds.take (i + 1)) = if p d = true then fm p f (ds.take i) ++ [f d] else fm p f (ds.take i) := by
  have e : ds.take (i + 1) = ds.take i ++ [d] := by
    rw [List.take_add_one, h]; rfl
  unfold fm
  rw [e, List.filter_append, List.map_append]
  cases q : p d <;> simp [List.filter_cons, q]
theorem fm_len (p : D → Bool) (f : D → D) (ds : List D) : (fm p f ds).length ≤ ds.length := by
  unfold fm; rw [List.length_map]; exact List.length_filter_le _ _
theorem ed_lcT {g : TG} {vs : List Nat} {ds : List D} (p : D → Bool) (f : D → D) (h : EvD K tl σ G H (.tuple ds)) (hz : ds.length ≤ 500000)
    (he : ∀ d ∈ ds, ∀ v G1 H1, Wk G H G1 H1 → Rp K G1 v d → Turn1 K g tt te σ vs G1 H1 v (p d) (f d)) : EvD K (tLc (iTup K tl) g tt te vs) σ G H (.list (fm p f ds)) := fun G1 H1 w Q q =>
  h G1 H1 w _ fun v G2 H2 w2 hv => by
    cases hv with
    | @tup a xs _ hs hr =>
      refine ⟨a, rfl, ⟨xs, sqt_up w2.b hs⟩, fun Dl hD => ?_⟩
      refine lc_tup (xs := xs) (fun i H' => lcP K G2 H2 Dl H' (fm p f (ds.take i))) ⟨G2, [], Wk.own w2.b hD, none_of_same w2.b hD, upd_same, .nil⟩ (fun i H' _ P => ?_) (fun i x H' hx P => ?_) (fun H' P => ?_)
      · obtain ⟨G3, _, w3, _⟩ := P
        exact sqt_up w3.b (sqt_up w3.g hs)
      · obtain ⟨d, hd, hxd⟩ := dpa_at hr hx
        refine lc_turn hD P ?_ (fun G3 w3 _ => he d (List.mem_of_getElem? hd) x G3 H' ((w.trans w2).trans w3) (dp_up w3.g hxd)) (fun H'' P' => ?_)
        · have := fm_len p f (ds.take i); rw [List.length_take] at this; omega
        · rw [fm_snoc hd]; exact P'
      · rw [dpa_len hr, List.take_length] at P
        exact lc_end hD P fun v G3 H3 w3 r => q v G3 H3 (w2.trans w3) r
theorem ed_lcL {g : TG} {vs : List Nat} {ds : List D} (p : D → Bool) (f : D → D) (h : EvD K tl σ G H (.list ds)) (hz : ds.length ≤ 500000)
    (he : ∀ d ∈ ds, ∀ v G1 H1, Wk G H G1 H1 → Rp K G1 v d → Turn1 K g tt te σ vs G1 H1 v (p d) (f d)) : EvD K (tLc (iList K tl) g tt te vs) σ G H (.list (fm p f ds)) := fun G1 H1 w Q q =>
  h G1 H1 w _ fun v G2 H2 w2 hv => by
    cases hv with
    | @lst a xs _ hs hr =>
      refine ⟨a, rfl, ⟨xs, sql_up w2.b hs⟩, fun Dl hD => ?_⟩
      refine lc_list (xs := xs) (fun i H' => lcP K G2 H2 Dl H' (fm p f (ds.take i))) ⟨G2, [], Wk.own w2.b hD, none_of_same w2.b hD, upd_same, .nil⟩ (fun i H' _ P => ?_) (fun i x H' hx P => ?_) (fun H' P => ?_)
      · obtain ⟨G3, _, w3, _⟩ := P
        exact sql_up w3.b (sql_up w3.g hs)
      · obtain ⟨d, hd, hxd⟩ := dpa_at hr hx
        refine lc_turn hD P ?_ (fun G3 w3 _ => he d (List.mem_of_getElem? hd) x G3 H' ((w.trans w2).trans w3) (dp_up w3.g hxd)) (fun H'' P' => ?_)
        · have := fm_len p f (ds.take i); rw [List.length_take] at this; omega
        · rw [fm_snoc hd]; exact P'
      · rw [dpa_len hr, List.take_length] at P
        exact lc_end hD P fun v G3 H3 w3 r => q v G3 H3 (w2.trans w3) r
/-- the whole numbers lo, lo + 1, .. -/
def rg (lo : Int) (n : Nat) : List D := (List.range n).map fun (i : Nat) => PyData.int (lo + (i : Int))
theorem rg_len (lo : Int) (n : Nat) : (rg lo n).length = n := by simp [rg]
theorem rg_at {lo : Int} {n i : Nat} (h : i < n) : (rg lo n)[i]? = some (.int (lo + (i : Int))) := by
  simp [rg, h]
theorem ed_lcR2 {g : TG} {vs : List Nat} {a : TA} {lo hi : Int} (p : D → Bool) (f : D → D) (h : EvA K a σ G H [.int lo, .int hi]) (hz : -1000000 ≤ lo ∧ lo ≤ 1000000 ∧ -1000000 ≤ hi ∧ hi - lo ≤ 400000)
    (he : ∀ (i : Int), lo ≤ i → i < hi → ∀ G1 H1, Wk G H G1 H1 → Turn1 K g tt te σ vs G1 H1 (.int i) (p (.int i)) (f (.int i))) : EvD K (tLc (iRng2 a) g tt te vs) σ G H (.list (fm p f (rg lo (hi - lo).toNat))) := fun G1 H1 w Q q =>
  h G1 H1 w _ fun vv G2 H2 w2 hv => by
    cases hv with
    | cons h1 h2 =>
      cases h2 with
      | cons h2 h3 =>
        cases h1; cases h2; cases h3
        refine ⟨lo, hi, rfl, by omega, fun Dl hD => ?_⟩
        refine lc_range (fun i H' => lcP K G2 H2 Dl H' (fm p f ((rg lo (hi - lo).toNat).take i))) ⟨G2, [], Wk.own w2.b hD, none_of_same w2.b hD, upd_same, .nil⟩ (fun i H' hx P => ?_) (fun H' P => ?_)
        · refine lc_turn hD P ?_ (fun G3 w3 _ => he (lo + i) (by omega) (by omega) G3 H' ((w.trans w2).trans w3)) (fun H'' P' => ?_)
          · have := fm_len p f ((rg lo (hi - lo).toNat).take i); rw [List.length_take, rg_len] at this; omega
          · rw [fm_snoc (rg_at hx)]; exact P'
        · have e := rg_len lo (hi - lo).toNat
          rw [List.take_of_length_le (by omega)] at P
          exact lc_end hD P fun v G3 H3 w3 r => q v G3 H3 (w2.trans w3) r
theorem ed_lcR1 {g : TG} {vs : List Nat} {a : TA} {hi : Int} (p : D → Bool) (f : D → D) (h : EvA K a σ G H [.int hi]) (hz : -1000000 ≤ hi ∧ hi ≤ 400000)
    (he : ∀ (i : Int), 0 ≤ i → i < hi → ∀ G1 H1, Wk G H G1 H1 → Turn1 K g tt te σ vs G1 H1 (.int i) (p (.int i)) (f (.int i))) : EvD K (tLc (iRng1 a) g tt te vs) σ G H (.list (fm p f (rg 0 hi.toNat))) := fun G1 H1 w Q q =>
  h G1 H1 w _ fun vv G2 H2 w2 hv => by
    cases hv with
    | cons h1 h2 =>
      cases h1; cases h2
      refine ⟨hi, rfl, by omega, by omega, fun Dl hD => ?_⟩
      refine lc_range (fun i H' => lcP K G2 H2 Dl H' (fm p f ((rg 0 hi.toNat).take i))) ⟨G2, [], Wk.own w2.b hD, none_of_same w2.b hD, upd_same, .nil⟩ (fun i H' hx P => ?_) (fun H' P => ?_)
      · refine lc_turn hD P ?_ (fun G3 w3 _ => he (0 + i) (by omega) (by omega) G3 H' ((w.trans w2).trans w3)) (fun H'' P' => ?_)
        · have := fm_len p f ((rg 0 hi.toNat).take i); rw [List.length_take, rg_len] at this; omega
        · rw [fm_snoc (rg_at hx)]; exact P'
      · have e := rg_len 0 hi.toNat
        rw [List.take_of_length_le (by omega)] at P
        exact lc_end hD P fun v G3 H3 w3 r => q v G3 H3 (w2.trans w3) r
theorem eb_yes : EvB K tYes σ G H true := fun G1 H1 w Q q => q G1 H1 (Wk.refl w.b)
/-- the target a name, no test -/
theorem turn_n {j : Nat} {vs : List Nat} {v : V} {f : D} (hw : wipe ((wipe σ vs).set j (some v)) vs = wipe σ vs) (h : EvD K te ((wipe σ vs).set j (some v)) G H f) : Turn1 K (gName j) tYes te σ vs G H v true f :=
  ⟨_, fun _ q => q, hw, eb_yes, fun _ => h⟩
theorem turn_t {j : Nat} {vs : List Nat} {v : V} {b : Bool} {f : D} (hw : wipe ((wipe σ vs).set j (some v)) vs = wipe σ vs) (ht : EvB K tt ((wipe σ vs).set j (some v)) G H b) (h : b = true → EvD K te ((wipe σ vs).set j (some v)) G H f) : Turn1 K (gName j) tt te σ vs G H v b f :=
  ⟨_, fun _ q => q, hw, ht, h⟩
/-- the target a pair of names -/
theorem turn_2 {j k : Nat} {vs : List Nat} {v : V} {b : Bool} {f d1 d2 : D} (hb : Same G H) (hv : Rp K G v (.tuple [d1, d2])) (hw : ∀ x y, wipe (((wipe σ vs).set j (some x)).set k (some y)) vs = wipe σ vs)
    (ht : ∀ x y, Rp K G x d1 → Rp K G y d2 → EvB K tt (((wipe σ vs).set j (some x)).set k (some y)) G H b) (h : ∀ x y, Rp K G x d1 → Rp K G y d2 → b = true → EvD K te (((wipe σ vs).set j (some x)).set k (some y)) G H f) :
    Turn1 K (gTup K 2 (gCons (gName j) (gCons (gName k) gNil))) tt te σ vs G H v b f := by
  cases hv with
  | tup hs hr =>
    cases hr with
    | cons h1 hr =>
      cases hr with
      | cons h2 hr =>
        cases hr
        exact ⟨_, fun Q q => ⟨_, _, rfl, sqt_up hb hs, rfl, _, _, rfl, _, _, rfl, rfl, q⟩, hw _ _, ht _ _ h1 h2, fun e => h _ _ h1 h2 e⟩
theorem fm_true (f : D → D) (ds : List D) : fm (fun _ => true) f ds = ds.map f := by
  unfold fm; rw [List.filter_eq_self.mpr (fun _ _ => rfl)]

/-! ### statements -/
variable {E : Ends} {tu tw tz : TS} {g : TG}
variable (K)
theorem s_ret (b : Same G H) (h : EvD K te σ G H d) (q : ∀ v G1 H1, Wk G H G1 H1 → Rp K G1 v d → E.rt v H1) : tRet te E σ H := h G H (Wk.refl b) _ q
theorem s_if {c : Bool} (b : Same G H) (h : EvB K tt σ G H c) (h1 : c = true → ∀ G1 H1, Wk G H G1 H1 → tu E σ H1) (h2 : c = false → ∀ G1 H1, Wk G H G1 H1 → tw E σ H1) : tIfS tt tu tw E σ H :=
  h G H (Wk.refl b) _ fun G1 H1 w => by
    cases c with
    | true => exact h1 rfl G1 H1 w
    | false => exact h2 rfl G1 H1 w
theorem s_drop (b : Same G H) (h : EvD K te σ G H d) (q : ∀ G1 H1, Wk G H G1 H1 → E.nx σ H1) : tDrop te E σ H := h G H (Wk.refl b) _ fun v G1 H1 w _ => q G1 H1 w
theorem s_set {i : Nat} (b : Same G H) (h : EvD K te σ G H d) (q : ∀ v G1 H1, Wk G H G1 H1 → Rp K G1 v d → E.nx (σ.set i (some v)) H1) : tAsg te (gName i) E σ H := h G H (Wk.refl b) _ q
theorem s_setI {i : Nat} {n : Int} (b : Same G H) (h : EvD K te σ G H (.int n)) (q : ∀ G1 H1, Wk G H G1 H1 → E.nx (σ.set i (some (.int n))) H1) : tAsg te (gName i) E σ H := h G H (Wk.refl b) _ fun v G1 H1 w r => by
  cases r
  exact q G1 H1 w
theorem s_par {i j : Nat} {a : TA} {d1 d2 : D} (b : Same G H) (h : EvA K a σ G H [d1, d2]) (q : ∀ x y G1 H1, Wk G H G1 H1 → Rp K G1 x d1 → Rp K G1 y d2 → E.nx ((σ.set i (some x)).set j (some y)) H1) : tPar i j a E σ H :=
  h G H (Wk.refl b) _ fun vs G1 H1 w r => by
    cases r with
    | cons h1 r =>
      cases r with
      | cons h2 r =>
        cases r
        exact ⟨_, _, rfl, q _ _ G1 H1 w h1 h2⟩
theorem s_parI {i j : Nat} {a : TA} {m n : Int} (b : Same G H) (h : EvA K a σ G H [.int m, .int n]) (q : ∀ G1 H1, Wk G H G1 H1 → E.nx ((σ.set i (some (.int m))).set j (some (.int n))) H1) : tPar i j a E σ H :=
  s_par K b h fun x y G1 H1 w h1 h2 => by
    cases h1; cases h2
    exact q G1 H1 w
/-- a, b = e, e a pair -/
theorem s_two {i j : Nat} {d1 d2 : D} (b : Same G H) (h : EvD K te σ G H (.tuple [d1, d2])) (q : ∀ x y G1 H1, Wk G H G1 H1 → Rp K G1 x d1 → Rp K G1 y d2 → E.nx ((σ.set i (some x)).set j (some y)) H1) :
    tAsg te (gTup K 2 (gCons (gName i) (gCons (gName j) gNil))) E σ H :=
  h G H (Wk.refl b) _ fun v G1 H1 w r => by
    cases r with
    | tup hs hr =>
      cases hr with
      | cons h1 hr =>
        cases hr with
        | cons h2 hr =>
          cases hr
          exact ⟨_, _, rfl, sqt_up w.b hs, rfl, _, _, rfl, _, _, rfl, rfl, q _ _ G1 H1 w h1 h2⟩
theorem s_twoI {i j : Nat} {m n : Int} (b : Same G H) (h : EvD K te σ G H (.tuple [.int m, .int n])) (q : ∀ G1 H1, Wk G H G1 H1 → E.nx ((σ.set i (some (.int m))).set j (some (.int n))) H1) :
    tAsg te (gTup K 2 (gCons (gName i) (gCons (gName j) gNil))) E σ H := s_two K b h fun x y G1 H1 w h1 h2 => by
  cases h1; cases h2
  exact q G1 H1 w
theorem s_four {i j k l : Nat} {d1 d2 d3 d4 : Int} (b : Same G H) (h : EvD K te σ G H (.tuple [.int d1, .int d2, .int d3, .int d4])) (q : ∀ G1 H1, Wk G H G1 H1 → E.nx ((((σ.set i (some (.int d1))).set j (some (.int d2))).set k (some (.int d3))).set l (some (.int d4))) H1) :
    tAsg te (gTup K 4 (gCons (gName i) (gCons (gName j) (gCons (gName k) (gCons (gName l) gNil))))) E σ H :=
  h G H (Wk.refl b) _ fun v G1 H1 w r => by
    cases r with
    | tup hs hr =>
      cases hr with
      | cons h1 hr =>
        cases hr with
        | cons h2 hr =>
          cases hr with
          | cons h3 hr =>
            cases hr with
            | cons h4 hr =>
              cases hr; cases h1; cases h2; cases h3; cases h4
              exact ⟨_, _, rfl, sqt_up w.b hs, rfl, _, _, rfl, _, _, rfl, _, _, rfl, _, _, rfl, rfl, q G1 H1 w⟩
/-- x = []: an owned list -/
theorem s_new {i : Nat} (b : Same G H) (q : ∀ p, H p = none → E.nx (σ.set i (some (.ref p))) (upd H p (.lst []))) : tAsg (tLst tNil) (gName i) E σ H := ⟨Nat.zero_le _, q⟩
/-- x.append(e), x owned -/
theorem s_app {i : Nat} {p : Addr} {xs : List V} (b : Same G H) (hs : σ[i]? = some (some (.ref p))) (gp : G p = none) (hp : H p = some (.lst xs)) (hl : xs.length < 1000000) (h : EvD K te σ G H d)
    (q : ∀ v G1 H1, Wk G H G1 H1 → G1 p = none → H1 p = some (.lst xs) → Rp K G1 v d → E.nx σ (upd H1 p (.lst (xs ++ [v])))) : tDrop (tBM K "list" rAppend (tVar i) (tCons te tNil)) E σ H := by
  refine ⟨_, hs, .inl ⟨rfl, _, SqL.of hp⟩, h G H (Wk.refl b) _ fun v G1 H1 w r => ?_⟩
  have k := w.keep hp gp
  exact ⟨p, xs, v, rfl, rfl, k.1, Nat.lt_of_lt_of_le hl (by decide), q v G1 H1 w k.2 k.1 r⟩
/-- what holds between two turns: the ghost part has grown from Gs on -/
abbrev Btw (G0 H0 Gs : Hp) (I : L2.St → Hp → Hp → Prop) : L2.St → Hp → Prop := fun σ' H' => ∃ G', Wk G0 H0 G' H' ∧ Same Gs G' ∧ I σ' G' H'
variable {G0 H0 : Hp}
theorem Btw.mk {Gs : Hp} {I : L2.St → Hp → Hp → Prop} {σ' : L2.St} {G1 H1 : Hp} (w : Wk G0 H0 G1 H1) (e : Same Gs G1) (h : I σ' G1 H1) : Btw G0 H0 Gs I σ' H1 := ⟨G1, w, e, h⟩
theorem s_forT {ds : List D} (Inv : Nat → L2.St → Hp → Hp → Prop) (w0 : Wk G0 H0 G H) (h : EvD K tl σ G H (.tuple ds)) (h0 : ∀ G1 H1, Wk G H G1 H1 → Inv 0 σ G1 H1)
    (hs : ∀ i d v σ' G1 H1, ds[i]? = some d → Rp K G1 v d → Wk G0 H0 G1 H1 → Same G G1 → Inv i σ' G1 H1 → g v σ' H1 fun σ2 H2 => tu { E with nx := Btw G0 H0 G1 (Inv (i + 1)), ct := Btw G0 H0 G1 (Inv (i + 1)), bk := E.nx } σ2 H2)
    (hd : ∀ σ' G1 H1, Wk G0 H0 G1 H1 → Same G G1 → Inv ds.length σ' G1 H1 → E.nx σ' H1) : tFor (iTup K tl) g tu E σ H :=
  h G H (Wk.refl w0.b) _ fun v G1 H1 w r => by
    cases r with
    | @tup a xs _ hq hr =>
      refine ⟨a, rfl, ⟨xs, sqt_up w.b hq⟩, fun i m σ' H' => m = xs.length - i ∧ i ≤ xs.length ∧ Btw G0 H0 G1 (Inv i) σ' H', ⟨xs.length, by simp, Nat.zero_le _, G1, w0.trans w, Same.refl _, h0 G1 H1 w⟩, ?_⟩
      rintro i m σ' H' ⟨rfl, hi, G2, w2, e2, P⟩
      have hq2 := sqt_up w2.b (sqt_up e2 hq)
      by_cases hlt : i < xs.length
      · refine .inr ⟨⟨xs, xs[i], hq2, by simp [hlt]⟩, Btw G0 H0 G2 (Inv (i + 1)), fun σ3 H3 p => ?_, fun x H3 y => ?_⟩
        · obtain ⟨G3, w3, e3, p⟩ := p
          exact ⟨xs.length - (i + 1), by omega, rfl, hlt, G3, w3, e2.trans e3, p⟩
        · obtain ⟨e, y⟩ := y
          subst e
          have hx := y xs hq2
          obtain ⟨d, hd', hxd⟩ := dpa_at hr hx
          exact hs i d x σ' G2 _ hd' (dp_up e2 hxd) w2 (w.g.trans e2) P
      · have e : i = xs.length := by omega
        subst e
        rw [dpa_len hr] at P
        exact .inl ⟨⟨xs, hq2, Nat.le_refl _⟩, hd σ' G2 H' w2 (w.g.trans e2) P⟩
theorem s_forL {ds : List D} (Inv : Nat → L2.St → Hp → Hp → Prop) (w0 : Wk G0 H0 G H) (h : EvD K tl σ G H (.list ds)) (h0 : ∀ G1 H1, Wk G H G1 H1 → Inv 0 σ G1 H1)
    (hs : ∀ i d v σ' G1 H1, ds[i]? = some d → Rp K G1 v d → Wk G0 H0 G1 H1 → Same G G1 → Inv i σ' G1 H1 → g v σ' H1 fun σ2 H2 => tu { E with nx := Btw G0 H0 G1 (Inv (i + 1)), ct := Btw G0 H0 G1 (Inv (i + 1)), bk := E.nx } σ2 H2)
    (hd : ∀ σ' G1 H1, Wk G0 H0 G1 H1 → Same G G1 → Inv ds.length σ' G1 H1 → E.nx σ' H1) : tFor (iList K tl) g tu E σ H :=
  h G H (Wk.refl w0.b) _ fun v G1 H1 w r => by
    cases r with
    | @lst a xs _ hq hr =>
      refine ⟨a, rfl, ⟨xs, sql_up w.b hq⟩, fun i m σ' H' => m = xs.length - i ∧ i ≤ xs.length ∧ Btw G0 H0 G1 (Inv i) σ' H', ⟨xs.length, by simp, Nat.zero_le _, G1, w0.trans w, Same.refl _, h0 G1 H1 w⟩, ?_⟩
      rintro i m σ' H' ⟨rfl, hi, G2, w2, e2, P⟩
      have hq2 := sql_up w2.b (sql_up e2 hq)
      by_cases hlt : i < xs.length
      · refine .inr ⟨⟨xs, xs[i], hq2, by simp [hlt]⟩, Btw G0 H0 G2 (Inv (i + 1)), fun σ3 H3 p => ?_, fun x H3 y => ?_⟩
        · obtain ⟨G3, w3, e3, p⟩ := p
          exact ⟨xs.length - (i + 1), by omega, rfl, hlt, G3, w3, e2.trans e3, p⟩
        · obtain ⟨e, y⟩ := y
          subst e
          have hx := y xs hq2
          obtain ⟨d, hd', hxd⟩ := dpa_at hr hx
          exact hs i d x σ' G2 _ hd' (dp_up e2 hxd) w2 (w.g.trans e2) P
      · have e : i = xs.length := by omega
        subst e
        rw [dpa_len hr] at P
        exact .inl ⟨⟨xs, hq2, Nat.le_refl _⟩, hd σ' G2 H' w2 (w.g.trans e2) P⟩
theorem s_rng {lo : Int} {n : Nat} {Gs : Hp} {H1 : Hp} {G1 : Hp} (Inv : Nat → L2.St → Hp → Hp → Prop) (w1 : Wk G0 H0 G1 H1) (e1 : Same Gs G1) (h0 : Inv 0 σ G1 H1)
    (hs : ∀ (i : Nat) σ' G2 H2, i < n → Wk G0 H0 G2 H2 → Same Gs G2 → Inv i σ' G2 H2 → g (.int (lo + i)) σ' H2 fun σ2 H2 => tu { E with nx := Btw G0 H0 G2 (Inv (i + 1)), ct := Btw G0 H0 G2 (Inv (i + 1)), bk := E.nx } σ2 H2)
    (hd : ∀ σ' G2 H2, Wk G0 H0 G2 H2 → Same Gs G2 → Inv n σ' G2 H2 → E.nx σ' H2) :
    ∃ W : Nat → Nat → L2.St → Hp → Prop, (∃ m, W 0 m σ H1) ∧ ∀ i m σ H, W i m σ H →
      ((Itr lo n).stop i H ∧ E.nx σ H) ∨ ((Itr lo n).go i H ∧ ∃ N : L2.St → Hp → Prop, (∀ σ' H', N σ' H' → ∃ m', m' < m ∧ W (i + 1) m' σ' H') ∧ ∀ x H', (Itr lo n).yld i H x H' → g x σ H' fun σ2 H2 => tu { E with nx := N, ct := N, bk := E.nx } σ2 H2) := by
  refine ⟨fun i m σ' H' => m = n - i ∧ i ≤ n ∧ Btw G0 H0 Gs (Inv i) σ' H', ⟨n, by simp, Nat.zero_le _, G1, w1, e1, h0⟩, ?_⟩
  rintro i m σ' H' ⟨rfl, hi, G2, w2, e2, P⟩
  by_cases hlt : i < n
  · refine .inr ⟨hlt, Btw G0 H0 G2 (Inv (i + 1)), fun σ3 H3 p => ?_, fun x H3 y => ?_⟩
    · obtain ⟨G3, w3, e3, p⟩ := p
      exact ⟨n - (i + 1), by omega, rfl, hlt, G3, w3, e2.trans e3, p⟩
    · obtain ⟨e, y⟩ := y
      subst e y
      exact hs i σ' G2 _ hlt w2 e2 P
  · have e : i = n := by omega
    subst e
    exact .inl ⟨Nat.le_refl _, hd σ' G2 H' w2 e2 P⟩
theorem s_forR1 {a : TA} {n : Int} (Inv : Nat → L2.St → Hp → Hp → Prop) (w0 : Wk G0 H0 G H) (h : EvA K a σ G H [.int n]) (hn : -1000000 ≤ n ∧ n ≤ 1000000) (h0 : ∀ G1 H1, Wk G H G1 H1 → Inv 0 σ G1 H1)
    (hs : ∀ (i : Nat) σ' G1 H1, (i : Int) < n → Wk G0 H0 G1 H1 → Same G G1 → Inv i σ' G1 H1 → g (.int i) σ' H1 fun σ2 H2 => tu { E with nx := Btw G0 H0 G1 (Inv (i + 1)), ct := Btw G0 H0 G1 (Inv (i + 1)), bk := E.nx } σ2 H2)
    (hd : ∀ σ' G1 H1, Wk G0 H0 G1 H1 → Same G G1 → Inv n.toNat σ' G1 H1 → E.nx σ' H1) : tFor (iRng1 a) g tu E σ H :=
  h G H (Wk.refl w0.b) _ fun vs G1 H1 w r => by
    cases r with
    | cons h1 h2 =>
      cases h1; cases h2
      refine ⟨n, rfl, by omega, by omega, s_rng (Gs := G) Inv (w0.trans w) w.g (h0 G1 H1 w) (fun i σ' G2 H2 hi w2 e2 P => ?_) hd⟩
      rw [Int.zero_add]
      exact hs i σ' G2 H2 (by omega) w2 e2 P
theorem s_forR2 {a : TA} {lo n : Int} (Inv : Nat → L2.St → Hp → Hp → Prop) (w0 : Wk G0 H0 G H) (h : EvA K a σ G H [.int lo, .int n]) (hn : -1000000 ≤ n ∧ n ≤ 1000000 ∧ -1000000 ≤ lo ∧ lo ≤ 1000000) (h0 : ∀ G1 H1, Wk G H G1 H1 → Inv 0 σ G1 H1)
    (hs : ∀ (i : Nat) σ' G1 H1, lo + (i : Int) < n → Wk G0 H0 G1 H1 → Same G G1 → Inv i σ' G1 H1 → g (.int (lo + i)) σ' H1 fun σ2 H2 => tu { E with nx := Btw G0 H0 G1 (Inv (i + 1)), ct := Btw G0 H0 G1 (Inv (i + 1)), bk := E.nx } σ2 H2)
    (hd : ∀ σ' G1 H1, Wk G0 H0 G1 H1 → Same G G1 → Inv (n - lo).toNat σ' G1 H1 → E.nx σ' H1) : tFor (iRng2 a) g tu E σ H :=
  h G H (Wk.refl w0.b) _ fun vs G1 H1 w r => by
    cases r with
    | cons h1 h2 =>
      cases h2 with
      | cons h2 h3 =>
        cases h1; cases h2; cases h3
        exact ⟨lo, n, rfl, by omega, s_rng (Gs := G) Inv (w0.trans w) w.g (h0 G1 H1 w) (fun i σ' G2 H2 hi w2 e2 P => hs i σ' G2 H2 (by omega) w2 e2 P) hd⟩
theorem s_while {m0 : Nat} (Inv : Nat → L2.St → Hp → Hp → Prop) (w0 : Wk G0 H0 G H) (h0 : Inv m0 σ G H)
    (hs : ∀ m σ' G1 H1, Wk G0 H0 G1 H1 → Inv m σ' G1 H1 → ∃ b, EvB K tt σ' G1 H1 b ∧ (b = true → ∀ G2 H2, Wk G1 H1 G2 H2 → Wk G0 H0 G2 H2 →
        tu { E with nx := fun σ3 H3 => ∃ m' G3, m' < m ∧ Wk G0 H0 G3 H3 ∧ Inv m' σ3 G3 H3, ct := fun σ3 H3 => ∃ m' G3, m' < m ∧ Wk G0 H0 G3 H3 ∧ Inv m' σ3 G3 H3, bk := E.nx } σ' H2) ∧
      (b = false → ∀ G2 H2, Wk G1 H1 G2 H2 → Wk G0 H0 G2 H2 → E.nx σ' H2)) : tWhile tt tu E σ H := by
  refine ⟨fun m σ' H' => ∃ G', Wk G0 H0 G' H' ∧ Inv m σ' G' H', ⟨m0, G, w0, h0⟩, fun m σ' H' P => ?_⟩
  obtain ⟨G1, w1, P⟩ := P
  obtain ⟨b, ht, h1, h2⟩ := hs m σ' G1 H' w1 P
  refine ht G1 H' (Wk.refl w1.b) _ fun G2 H2 w2 => ?_
  cases b with
  | true =>
    refine ⟨fun σ3 H3 => ∃ m' G3, m' < m ∧ Wk G0 H0 G3 H3 ∧ Inv m' σ3 G3 H3, fun σ3 H3 p => ?_, h1 rfl G2 H2 w2 (w1.trans w2)⟩
    obtain ⟨m', G3, l, w3, p⟩ := p
    exact ⟨m', l, G3, w3, p⟩
  | false => exact h2 rfl G2 H2 w2 (w1.trans w2)
end
end L3
namespace L3
open PySem PySem.Spec PyProof.Rows L2
section
variable {X : Cx} {K : Fg} {σ : L2.St} {G H : Hp} {ta tb te tl : TE} {d : D}
/-- a whole number of the module's top -/
theorem gl_int {x : Str} {n : Int} {pos : Pos} (hm : ∃ t, X.mg x = some (.int n t)) (hg : Gl X x := by rfl) (hd : (x == ("__debug__" : Str)) = false := by decide) : PE X (.Name x pos) (tC (.int n)) := by
  obtain ⟨t, e⟩ := hm
  exact pe_glob (v := .int n) hg e ⟨t, rfl⟩ hd
theorem gl_ref {x : Str} {a : Addr} {pos : Pos} (hm : X.mg x = some (.ref a)) (hg : Gl X x := by rfl) (hd : (x == ("__debug__" : Str)) = false := by decide) : PE X (.Name x pos) (tC (.ref a)) := pe_glob (v := .ref a) hg hm rfl hd
/-- a list or a tuple is walked -/
def iSeq (K : Fg) (tl : TE) : TI := fun σ H R => iList K tl σ H R ∨ iTup K tl σ H R
theorem pi_seq {tg l : Expr} {tl : TE} (hl : PE X l tl) : PI X tg l (iSeq X.K tl) := ⟨fun pins s σ H R I h => by
  rcases h with h | h
  · exact (pi_list hl).run pins s σ H R I h
  · exact (pi_tup hl).run pins s σ H R I h⟩
theorem ed_lcS {g : TG} {tt : TT} {vs : List Nat} {t : TE} {ds : List D} (h : EvD K (tLc (iList K tl) g tt te vs) σ G H d) : EvD K (tLc (iSeq K tl) g tt te vs) σ G H d := fun G1 H1 w Q q => .inl (h G1 H1 w Q q)
theorem lcS_l {g : TG} {tt : TT} {vs : List Nat} (h : EvD K (tLc (iList K tl) g tt te vs) σ G H d) : EvD K (tLc (iSeq K tl) g tt te vs) σ G H d := fun G1 H1 w Q q => .inl (h G1 H1 w Q q)
theorem lcS_t {g : TG} {tt : TT} {vs : List Nat} (h : EvD K (tLc (iTup K tl) g tt te vs) σ G H d) : EvD K (tLc (iSeq K tl) g tt te vs) σ G H d := fun G1 H1 w Q q => .inr (h G1 H1 w Q q)
theorem forS_l {g : TG} {tu : TS} {E : Ends} (h : tFor (iList K tl) g tu E σ H) : tFor (iSeq K tl) g tu E σ H := .inl h
theorem forS_t {g : TG} {tu : TS} {E : Ends} (h : tFor (iTup K tl) g tu E σ H) : tFor (iSeq K tl) g tu E σ H := .inr h
/-! ### truth -/
/-- the truth of a tree -/
def tru : D → Bool
  | .none => false
  | .bool b => b
  | .int i => i != 0
  | .str s => ((s.length : Int) != 0)
  | .list ds => !ds.isEmpty
  | .tuple ds => !ds.isEmpty
  | .dict ds => !ds.isEmpty
theorem isEmpty_len {α β : Type} {xs : List α} {ys : List β} (h : xs.length = ys.length) : xs.isEmpty = ys.isEmpty := by
  cases xs <;> cases ys <;> simp at h <;> rfl
theorem dpm_len : ∀ {ds : List (D × D)} {vs : List (Key × V)}, RpM K H vs ds → vs.length = ds.length
  | [], _, h => by cases h; rfl
  | d :: ds, _, h => by
    cases h with
    | cons _ h2 => simp [dpm_len h2]
theorem rp_tru {x : V} (b : Same G H) (h : Rp K G x d) (hs : ∀ s, d = .str s → s.length ≤ sizeLine) (hd : ∀ ds, d ≠ .dict ds) : TruV K x H (tru d) := by
  cases h with
  | non => exact rfl
  | bl k => exact rfl
  | int i => exact rfl
  | str s => exact ⟨hs s rfl, rfl⟩
  | lst hq hr => exact .inl ⟨_, sql_up b hq, by unfold tru; rw [isEmpty_len (dpa_len hr)]⟩
  | tup hq hr => exact .inr (.inl ⟨_, sqt_up b hq, by unfold tru; rw [isEmpty_len (dpa_len hr)]⟩)
  | dct hq hr => exact absurd rfl (hd _)
theorem eb_truI {i : Int} (h : EvD K te σ G H (.int i)) : EvB K (fun σ H Q => te σ H fun x H' => ∃ k, TruV K x H' k ∧ Q k H') σ G H (i != 0) :=
  eb_tru h fun x G1 H1 b hx Q q => ⟨_, rp_tru b hx (fun s e => by cases e) (fun ds e => by cases e), q⟩
theorem eb_truL {ds : List D} (h : EvD K te σ G H (.list ds)) : EvB K (fun σ H Q => te σ H fun x H' => ∃ k, TruV K x H' k ∧ Q k H') σ G H (!ds.isEmpty) :=
  eb_tru h fun x G1 H1 b hx Q q => ⟨_, rp_tru b hx (fun s e => by cases e) (fun ds e => by cases e), q⟩
theorem eb_truT {ds : List D} (h : EvD K te σ G H (.tuple ds)) : EvB K (fun σ H Q => te σ H fun x H' => ∃ k, TruV K x H' k ∧ Q k H') σ G H (!ds.isEmpty) :=
  eb_tru h fun x G1 H1 b hx Q q => ⟨_, rp_tru b hx (fun s e => by cases e) (fun ds e => by cases e), q⟩
theorem pt_truK {X : Cx} {K : Fg} {a : Expr} {ta : TE} (hK : X.K = K) (ha : PE X a ta) (he : ∀ whole, isTrue a X.env whole = (do let v ← whole; standAt a.pos; holding [v] (truthy v))) :
    PT X a (fun σ H Q => ta σ H fun x H' => ∃ k, TruV K x H' k ∧ Q k H') := by subst hK; exact pt_truth ha he
/-! ### is None -/
theorem ed_isN (ha : EvD K ta σ G H d) (k : Bool) (hk : k = (match d with | .none => true | _ => false)) : EvD K (tOp (fun x y H Q => y = .non ∧ Q (.bl (decide (x = .non))) H) ta (tC .non)) σ G H (.bool k) := fun G1 H1 w Q q =>
  ha G1 H1 w _ fun x G2 H2 w2 hx => by
    refine ⟨rfl, ?_⟩
    have e : decide (x = V.non) = k := by
      subst hk
      cases hx <;> simp
    rw [e]
    exact q _ _ _ w2 (.bl _)
theorem ed_notN (ha : EvD K ta σ G H d) (k : Bool) (hk : k = (match d with | .none => false | _ => true)) : EvD K (tOp (fun x y H Q => y = .non ∧ Q (.bl (!decide (x = .non))) H) ta (tC .non)) σ G H (.bool k) := fun G1 H1 w Q q =>
  ha G1 H1 w _ fun x G2 H2 w2 hx => by
    refine ⟨rfl, ?_⟩
    have e : (!decide (x = V.non)) = k := by
      subst hk
      cases hx <;> simp
    rw [e]
    exact q _ _ _ w2 (.bl _)
/-! ### a op b op c over whole numbers -/
theorem ed_chain {p p' : Int → Int → Bool} {ta tb tc : TE} {i j k : Int} (ha : EvD K ta σ G H (.int i)) (hb : EvD K tb σ G H (.int j)) (hc : p i j = true → EvD K tc σ G H (.int k)) :
    EvD K (tChain (rI0 fun i j => .bl (p i j)) (rI0 fun i j => .bl (p' i j)) ta tb tc) σ G H (.bool (p i j && p' j k)) := fun G1 H1 w Q q =>
  ha G1 H1 w _ fun x G2 H2 w2 hx => hb G2 H2 (w.trans w2) _ fun y G3 H3 w3 hy => by
    cases hx; cases hy
    refine ⟨i, j, rfl, rfl, p i j, rfl, ?_⟩
    cases e : p i j with
    | true =>
      rw [e, Bool.true_and] at q
      show tc σ H3 _
      refine hc e G3 H3 ((w.trans w2).trans w3) _ fun z G4 H4 w4 hz => ?_
      cases hz
      exact ⟨j, k, rfl, rfl, q (.bl (p' j k)) _ _ ((w2.trans w3).trans w4) (.bl _)⟩
    | false =>
      rw [e, Bool.false_and] at q
      exact q _ _ _ (w2.trans w3) (.bl _)
/-! ### t[::-1], t a tuple -/
theorem places_back (n : Nat) : Builtin.Slice.slicePlaces ((n : Int) - 1) (-1) (-1) = n := by
  unfold Builtin.Slice.slicePlaces
  rw [if_neg (by decide)]
  by_cases h : n = 0
  · subst h; decide
  · rw [if_pos (by omega)]
    have : ((n : Int) - 1 - -1 - 1) / (- -1) + 1 = n := by
      rw [show (- -1 : Int) = 1 from rfl, Int.ediv_one]; omega
    rw [this]; exact Int.toNat_natCast n
theorem pick_back (xs : List Value) : ((List.range xs.length).filterMap fun (m : Nat) => xs.toArray[(((xs.length : Int) - 1) + (m : Int) * (-1)).toNat]?).toArray = xs.reverse.toArray := by
  congr 1
  apply List.ext_getElem?
  intro i
  have key : ∀ n, n ≤ xs.length → (List.range n).filterMap (fun (m : Nat) => xs.toArray[(((xs.length : Int) - 1) + (m : Int) * (-1)).toNat]?) = xs.reverse.take n := by
    intro n hn
    induction n with
    | zero => simp
    | succ n ih =>
      rw [List.range_succ, List.filterMap_append, ih (by omega), List.take_add_one]
      congr 1
      have e : (((xs.length : Int) - 1) + (n : Int) * (-1)).toNat = xs.length - 1 - n := by omega
      simp only [List.filterMap_cons, List.filterMap_nil, e]
      rw [List.getElem?_reverse (by omega)]
      have hq : xs.toArray[xs.length - 1 - n]? = xs[xs.length - 1 - n]? := by simp
      rw [hq]
      cases xs[xs.length - 1 - n]? <;> rfl
  rw [key _ (Nat.le_refl _), List.take_of_length_le (by simp)]
end
section
variable {prog : Program} {w : World} {A : Around} {E : Value → Shared → Prop} {s : Shared}
theorem applied_back {sl : Addr} {u : Tok} {n : Nat} {Q : Int × Int × Nat → Shared → Prop} (hs : s.heap.IsSliceOf sl .none .none (.int (-1) u)) (h : Q ((n : Int) - 1, -1, n) s) :
    wpAny (model prog w) A (Builtin.Slice.sliceApplied (.ref sl) (pure (n : Int))) Q E s := by
  obtain ⟨os, hos, hcs, hds⟩ := id hs
  unfold Builtin.Slice.sliceApplied Builtin.Slice.sliceFields
  refine wpAny_bind (wpAny_bind (wpAny_field hos hds (x := .none) rfl (wpAny_bind
    (wpAny_field hos hds (x := .none) rfl (wpAny_bind (wpAny_field hos hds (x := .int (-1) u) rfl (wpAny_pure ?_)))))))
  refine wpAny_bind (slicePart_int ?_)
  show wpAny _ _ (if ((-1 : Int) == 0) = true then _ else _) _ _ s
  rw [if_neg (by decide)]
  refine wpAny_bind (slicePart_none (wpAny_bind
    (slicePart_none (wpAny_bind (wpAny_pure ?_)))))
  show wpAny _ _ (pure ((n : Int) - 1, (-1 : Int), Builtin.Slice.slicePlaces ((n : Int) - 1) (-1) (-1))) _ _ s
  rw [places_back]
  exact wpAny_pure h
theorem item_back {t sl : Addr} {its : List Value} {u : Tok} {Q : Value → Shared → Prop} (ht : IsTup s.heap t its.toArray) (hs : s.heap.IsSliceOf sl .none .none (.int (-1) u)) (hsz : its.length ≤ sizeLine)
    (h : Q (.ref s.heap.objs.size) { s with heap := s.heap.push { cls := .type "tuple", data := .seq its.reverse.toArray } }) :
    wpAny (model prog w) A (getItem (.ref t) (.ref sl)) Q E s := by
  have hz : sizeOk (.seq its.reverse.toArray) := by
    show its.reverse.toArray.size ≤ sizeLine
    rw [List.size_toArray, List.length_reverse]; exact hsz
  obtain ⟨os, hos, hcs, hds⟩ := id hs
  have hT : s.TypeIs (.ref sl) "slice" := ⟨os, hos, hcs⟩
  unfold getItem
  try with_reducible refine wpAny_holding ?_
  first
    | refine wpAny_bind (wpAny_pure ?_)
    | skip
  refine wpAny_bind (wpAny_sequenceKey ht.typeIs (by decide) ?_)
  refine wpAny_bind (wpAny_callSpecial?_slot (name := Str.ofString "__getitem__")
    ht.typeIs PyProof.Rows.slot_tuple_getitem (wpAny_call_entry
      PyProof.Rows.slot_tuple_getitem ht.typeIs PyProof.Rows.entry_tuple_getitem ?_ (PyProof.Rows.args_tuple_getitem _ _)))
  show wpAny _ _ (Builtin.Tuple.tupleItemsOf (.ref t) >>= _) _ _ s
  refine wpAny_bind (tupleItemsOf_ ht ?_)
  refine wpAny_bind (wpAny_typeOf hT ?_)
  rw [if_pos (by decide)]
  refine wpAny_bind (applied_back (n := its.toArray.size) hs ?_)
  have hno : ¬ ((((its.toArray.size : Int) - 1) == 0 && (-1 : Int) == 1 && its.toArray.size == its.toArray.size) = true) := by
    intro q
    rw [Bool.and_eq_true, Bool.and_eq_true] at q
    exact absurd q.1.2 (by decide)
  show wpAny _ _ (if (((its.toArray.size : Int) - 1) == 0 && (-1 : Int) == 1 && its.toArray.size == its.toArray.size) = true then _ else _) _ _ s
  rw [if_neg hno, List.size_toArray, pick_back]
  first
    | exact wpAny_bind (m := Builtin.Tuple.tupleExact _)
        (wpAny_newObj_type (wpAny_pure ⟨_, rfl, wpAny_pure h⟩) hz)
    | exact wpAny_bind (wpAny_bind (m := Builtin.Tuple.tupleExact _)
        (wpAny_newObj_type (wpAny_pure (wpAny_pure ⟨_, rfl, wpAny_pure h⟩)) hz))
    | exact wpAny_bind (m := Builtin.Tuple.tupleExact _)
        (wpAny_newObj_type (wpAny_bind (wpAny_pure (wpAny_pure ⟨_, rfl, wpAny_pure h⟩))) hz)
end
section
variable {X : Cx} {K : Fg} {σ : L2.St} {G H : Hp}
def tRevT (K : Fg) (te : TE) : TE := fun σ H Q => te σ H fun x H1 => ∃ a xs, x = .ref a ∧ SqT K H1 a xs ∧ ∀ p, H1 p = none → Q (.ref p) (upd H1 p (.tup xs.reverse))
theorem pe_revT {e : Expr} {te : TE} {k : Nat} {p1 p2 p3 pos : Pos} (he : PE X e te) :
    PE X (.Subscript e (.Slice none none (some (.UnaryOp .USub (.Constant (.int 1) k p1) p2)) p3) pos) (tRevT X.K te) := by
  refine ⟨fun pins s σ H Q I h => ?_⟩
  refine Subscript_ (thn (he.run pins s σ H _ I h) fun v sa ⟨x, Ha, Ia, ra, qa⟩ => ?_)
  obtain ⟨a, xs, ex, hx, q⟩ := qa
  subst ex
  cases ra
  have hst : PO X (some (.UnaryOp .USub (.Constant (.int 1) k p1) p2))
      (tPart (tUn (rU fun i => .int (-i)) (tC (.int 1)))) := po_some (pe_un un_neg pe_int)
  refine wpAny_Slice (thn (po_none.run pins sa σ Ha (fun o Hb => o = none ∧ Hb = Ha) Ia ⟨rfl, rfl⟩)
    fun vl sb ⟨l, Hb, Ib, pl, el, eb⟩ => ?_)
  subst el eb
  refine thn (po_none.run pins sb σ Hb (fun o Hc => o = none ∧ Hc = Hb) Ib ⟨rfl, rfl⟩)
    fun vu sc ⟨u, Hc, Ic, pu, eu, ec⟩ => ?_
  subst eu ec
  refine thn (hst.run pins sc σ Hc (fun o Hd => o = some (-1) ∧ Hd = Hc) Ic ⟨1, rfl, -1, rfl, rfl, rfl⟩)
    fun vs sd ⟨o, Hd, Id, ps, eo, ed⟩ => ?_
  subst eo ed
  cases pl
  cases pu
  cases ps with
  | int _ tk =>
    have J : Inv X pins σ Hd { sd with heap := sd.heap.push { cls := .type "slice", data := .fields #[.none, .none, .int (-1) tk] } } :=
      Id.kept (t' := sd.toks) fun b ob qq => Heap.get?_push_of_some _ qq
    obtain ⟨its, r, ht, hz⟩ := J.tuple hx
    have hlen := r.length
    show wpAny (model X.prog X.w) X.A (subscriptTail e (.Slice none none (some (.UnaryOp .USub (.Constant (.int 1) k p1) p2)) p3)
      (.ref a) (.ref sd.heap.objs.size)) (EP X pins σ Q) X.xe
      { sd with heap := sd.heap.push { cls := .type "slice", data := .fields #[.none, .none, .int (-1) tk] } }
    refine tail_any (ops := [.ref a, .ref sd.heap.objs.size]) ht.typeIs
      (PyProof.Rows.slot_tuple_getitem.lookup) ?_ (by with_unfolding_all rfl)
    refine item_back ht (Heap.IsSliceOf.new ..) (by omega) ?_
    refine ⟨.ref _, _, J.laid (t' := sd.toks) (o := .tup xs.reverse)
      (fun b ob qq => Heap.get?_push_of_some _ qq) (Nat.le_refl _) ?_, rfl, q _ (J.hok.fresh (Nat.le_refl _))⟩
    exact ⟨by rw [List.length_reverse]; exact hz, _, r.reverse, IsTup.new _ _⟩
theorem ed_revT {ta : TE} {ds : List D} (ha : EvD K ta σ G H (.tuple ds)) : EvD K (tRevT K ta) σ G H (.tuple ds.reverse) := fun G1 H1 w Q q =>
  ha G1 H1 w _ fun x G2 H2 w2 hx => by
    cases hx with
    | tup hs hl => exact ⟨_, _, rfl, sqt_up w2.b hs, fun p hp => q _ _ _ (w2.trans (Wk.new w2.b hp)) (.tup (SqT.of upd_same) (dpa_rev (dpa_up (Wk.new w2.b hp).g hl)))⟩
end
end L3
namespace L3
open PySem PySem.Spec PyProof.Rows L2
/-! ### errors: all defs may raise, the context of what is raised is None -/
theorem passN {X : Cx} : Passes (L2N.CX X.prog X.w) X E0 := fun _ _ _ _ _ _ _ h => by
  obtain ⟨_, _, _, _, _, _, _, _, _, _, _, _, z⟩ := h
  exact z.elim
theorem takesN {X : Cx} : L2N.Takes X (fun _ _ _ _ => False) := fun _ _ x => by
  obtain ⟨_, _, _, _, _, _, _, _, _, _, _, _, _, _, _, _, z⟩ := x
  exact z.elim
theorem okN {P : Program} {w : World} {K : Fg} {mg : Str → Option Value} {base : Heap} {x qual : Str} {st : Stmt} {f : Addr} {fd : FuncData} {N ps : List Str} {k : Nat} {sp : Sp}
    (F : Fun K x qual st f fd) (S : FnScope N ps (defScope st)) (len : ∀ vs H Q E, sp vs H Q E → vs.length = ps.length)
    (body : ∀ (cdv : Value) (A : Around) (outer : List Env) (s : Shared) (H : Hp) (vs : List V) (Q : VK) (E : XK), Room k (A.deeper (envOfC qual (defScope st) s.heap.objs.size f cdv)) → sp vs H Q E →
      ∃ t, PSs (cxOf (L2N.CX P w) P w K mg base N qual (defScope st) f cdv A outer s H E) (defBody st) t ∧ t { nx := fun _ H' => Q .non H', rt := Q } (start N vs) H) :
    FnOk P w K mg base (L2N.CX P w) (k + 1) f fd ps sp := by
  obtain ⟨oc, od, kV, doc, pm, an, cdv, ct, osl, rfl, lk, hcd⟩ := F.ex
  exact fn_of lk hcd S len fun A outer s H vs Q E hr h => body cdv A outer s H vs Q E hr h
/-- what is known of an own class of errors -/
structure ExcF (K : Fg) (C : Addr) : Prop where
  x : PySem.W.excIn K C [.type "ValueError", .type "Exception", .type "BaseException", .type "object"] "ValueError.__new__" = true
  k : PySem.W.keepIn K (.ref C) = true
  e : ExcC K C
  t : PySem.W.typeIn K (.ref C) = some (.type "type")
theorem ExcF.b {K : Fg} {C : Addr} (h : ExcF K C) : PySem.W.subIn K (.ref C) (.type "BaseException") = some true := h.e.hs
theorem exm_is {K : Fg} {C D : Addr} {b : Bool} (h : ExcF K C) (q : PySem.W.subIn K (.ref D) (.ref C) = some b) : PySem.W.exmOne K (.ref D) (.ref C) = some b := PySem.W.exm_ref h.b h.e.hd h.t q
section
variable {X : Cx} {a : Addr} {oe : Obj} {cls : Value} {d : Option Addr} {pn : List (Addr × Obj)}
/-- isinstance(wrong, C), wrong the error that is handled -/
def tIsE (K : Fg) (cls : Value) (d : Option Addr) (a : Addr) (ta : TA) : TE := fun σ H Q => ∃ D, cls = .ref D ∧ d = none ∧ ExcC K D ∧ ta σ H fun xs H' => rIsE K D a xs H' Q
theorem pe_isE {x : Str} {p pos : Pos} {e : Expr} {es : List Expr} {t : TA} (hz : L2N.Zn cls d oe) (hf : ∃ vs, oe.data = .fields vs) (hg : Gl (X.suite a ((a, oe) :: pn)) x) (hm : (X.suite a ((a, oe) :: pn)).mg x = none) (hv : bootBuiltins x = some (.builtin "isinstance"))
    (ha : PA (X.suite a ((a, oe) :: pn)) (e :: es) t) (hn : x ≠ "__name__" := by decide) (hdb : (x == ("__debug__" : Str)) = false := by decide)
    (he : starEach (e :: es) (X.suite a ((a, oe) :: pn)).env = (false, eval e (X.suite a ((a, oe) :: pn)).env) :: starEach es (X.suite a ((a, oe) :: pn)).env := by rfl)
    (hpl : (backTo pos (starEach es (X.suite a ((a, oe) :: pn)).env)).any (·.1) = false := by rfl) :
    PE (X.suite a ((a, oe) :: pn)) (.Call (.Name x p) (e :: es) [] pos) (tIsE X.K cls d a t) := ⟨fun pins s σ H Q I h => by
  obtain ⟨D, e1, e2, C, q⟩ := h
  subst e1 e2
  exact (pe_callB (call_isE C hz.zc hf) hg hm hv ha hn hdb he hpl).run pins s σ H Q I q⟩
end
/-- isinstance(wrong, (C, ..)), wrong the error that is handled -/
def rIsET (K : Fg) (D a : Addr) : List V → Hp → VK → Prop := fun xs H Q => ∃ (tp : Addr) (cs : List V) (us : List Value) (b : Bool), xs = [.ref a, .ref tp] ∧ H tp = some (.tup cs) ∧ Paired ClsV cs us ∧ PySem.W.kitAny K (.ref D) us = some b ∧ Q (.bl b) H
theorem call_isET {X : Cx} {a D : Addr} {oe : Obj} {pn : List (Addr × Obj)} (C : ExcC X.K D) (hz : Zc (.ref D) none oe) (hf : ∃ vs, oe.data = .fields vs) : CallR (X.suite a ((a, oe) :: pn)) (.builtin "isinstance") (rIsET X.K D a) := by
  intro pins s σ H xs us Q I r h
  obtain ⟨tp, cs, ws, b, rfl, hT, k, e, q⟩ := h
  cases r with
  | cons rx rr =>
    cases rr with
    | @cons _ u2 _ _ rt rr =>
      cases rr
      cases rx
      cases (show u2 = Value.ref tp from rt)
      obtain ⟨hget, _⟩ := I.pin (a, oe) (List.mem_append.mpr (.inl List.mem_cons_self))
      obtain ⟨vs, hv⟩ := hf
      have J : PySem.W.InstAt s.heap a oe D none := by
        obtain ⟨oc, od, oda, osl⟩ := oe
        obtain ⟨h1, h2⟩ := hz
        dsimp only at h1 h2 hv
        subst h1 h2 hv
        exact ⟨hget, rfl, rfl, trivial⟩
      obtain ⟨_, its, rv, o, g1, g2, n, g3⟩ := I.hok tp _ hT
      have e3 := ClsV.all k rv
      subst e3
      obtain ⟨oc, od, dt, sl⟩ := o
      simp only at g2 g3
      subst g2 g3
      exact PySem.W.kia_tup (PySem.W.handS_kitx_exc C.hg C.hk C.hs C.hd C.ha C.hn C.ht C.hm) I.kIn J g1 e (fun z => nomatch z) fun tk => ⟨.bl b, H, I.kept (t' := tk) fun _ _ z => z, rfl, q⟩
def tIsET (K : Fg) (cls : Value) (d : Option Addr) (a : Addr) (ta : TA) : TE := fun σ H Q => ∃ D, cls = .ref D ∧ d = none ∧ ExcC K D ∧ ta σ H fun xs H' => rIsET K D a xs H' Q
section
variable {X : Cx} {a : Addr} {oe : Obj} {cls : Value} {d : Option Addr} {pn : List (Addr × Obj)}
theorem pe_isET {x : Str} {p pos : Pos} {e : Expr} {es : List Expr} {t : TA} (hz : L2N.Zn cls d oe) (hf : ∃ vs, oe.data = .fields vs) (hg : Gl (X.suite a ((a, oe) :: pn)) x) (hm : (X.suite a ((a, oe) :: pn)).mg x = none) (hv : bootBuiltins x = some (.builtin "isinstance"))
    (ha : PA (X.suite a ((a, oe) :: pn)) (e :: es) t) (hn : x ≠ "__name__" := by decide) (hdb : (x == ("__debug__" : Str)) = false := by decide)
    (he : starEach (e :: es) (X.suite a ((a, oe) :: pn)).env = (false, eval e (X.suite a ((a, oe) :: pn)).env) :: starEach es (X.suite a ((a, oe) :: pn)).env := by rfl)
    (hpl : (backTo pos (starEach es (X.suite a ((a, oe) :: pn)).env)).any (·.1) = false := by rfl) :
    PE (X.suite a ((a, oe) :: pn)) (.Call (.Name x p) (e :: es) [] pos) (tIsET X.K cls d a t) := ⟨fun pins s σ H Q I h => by
  obtain ⟨D, e1, e2, C, q⟩ := h
  subst e1 e2
  exact (pe_callB (call_isET C hz.zc hf) hg hm hv ha hn hdb he hpl).run pins s σ H Q I q⟩
end
/-! ### a comprehension within an except suite -/
abbrev blkH (X : Cx) (s : Shared) (H : Hp) (sc : Scope) (ce : Env) (fp : List Addr) (p0 : Addr × Obj) : Cx := (X.blk s H sc ce fp).tr [p0] (fun _ _ => False)
theorem pe_lcH {X : Cx} {p0 : Addr × Obj} {elt tg iter : Expr} {ifs : List Expr} {scope : Scope} {own : List (Str × Nat)} {pos : Pos} {wi : TI} {g : TG} {tt : TT} {te : TE}
    (hot : L2H.Hot1 X.A p0) (hp0 : p0 ∈ X.pn) (hN : X.N.Nodup) (hi : L2H.PIH X tg iter wi) (ok : BlkOk X.N X.env.scope scope own)
    (hg : ∀ s H C cl fp, PG (blkH X s H scope (compEnvC scope cl C X.env) fp p0) tg g)
    (ht : ∀ s H C cl fp, PTs (blkH X s H scope (compEnvC scope cl C X.env) fp p0) ifs tt)
    (he : ∀ s H C cl fp, PE (blkH X s H scope (compEnvC scope cl C X.env) fp p0) elt te)
    (hs : ∀ x, foldedSetIterable iter X.env x = pure x := by intro _; rfl) :
    PE X (.ListComp elt [⟨tg, iter, ifs, 0⟩] scope pos) (tLc wi g tt te (own.map (·.2))) := by
  refine ⟨fun pins s σ H Q I h => ?_⟩
  rw [eval_ListComp]
  have hfree : ∀ y ∈ scope.names, y.2 = .free → ∃ c, X.env.cells.lookup y.1 = some c := fun y hy e =>
    (ok.free y hy e).elim (fun k => I.ok.has _ (.inl k)) fun k => I.ok.has _ (.inr k)
  refine wpAny_comprehension_free (use := none) rfl hs (closure_ok hfree) ok.kind
    (fun y hy e => by rw [ok.uniq y hy, e]) (thn (hi.run pins s σ H _ I h) fun xv s1 hx => thn hx fun itv s2 h2 => ?_)
  obtain ⟨it, fp, tn, J, H2, e, I2, T, st2, f2, q⟩ := h2
  subst e
  refine wpAny_newObj_type (newEnv_comp ?_) (by show 0 ≤ sizeLine; decide)
  generalize hD : s2.heap.objs.size = Dl
  have hDn : H2 Dl = none := I2.hok.fresh (Nat.le_of_eq hD)
  obtain ⟨W, ⟨m0, w0⟩, turn⟩ := q Dl hDn
  generalize hs3 : ({ s2 with heap := (s2.heap.push (⟨.type "list", none, .seq ([] : List Value).toArray 0, #[]⟩ : Obj)) } : Shared) = s3
  have I3 : Inv X pins σ (upd H2 Dl (.lst [])) s3 := by
    rw [← hs3]
    refine I2.laid (t' := s2.toks) (fun b o z => Heap.get?_push_of_some _ z) (Nat.le_of_eq hD) ⟨Nat.zero_le _, [], 0, .nil, ?_⟩
    rw [← hD]; exact Heap.get?_push_size _ rfl
  have h3 : s3.heap = s2.heap.push (⟨.type "list", none, .seq ([] : List Value).toArray 0, #[]⟩ : Obj) := by rw [← hs3]
  have lt2 : ∀ b ∈ fp, b < s2.heap.objs.size := fun b hb => (T.obj _ _ st2 b hb).elim fun o z => Heap.lt_size z.1
  have f3 : ∀ b ∈ fp, FpOk X pins (upd H2 Dl (.lst [])) b ∧ b < s3.heap.objs.size := fun b hb =>
    ⟨⟨by rw [upd_ne (by rw [← hD]; exact Nat.ne_of_lt (lt2 b hb))]; exact (f2 b hb).1, (f2 b hb).2⟩,
      by rw [h3, Heap.size_push]; exact Nat.lt_succ_of_lt (lt2 b hb)⟩
  have st3 : tn 0 s3.heap := T.keep _ _ _ st2 fun b _ o z => by rw [h3]; exact Heap.get?_push_of_some _ z
  have I4 := block_start I3 ok hN f3
  have pg := hg s3 (upd H2 Dl (.lst [])) s3.heap.objs.size
    (cellsFrom (s3.heap.objs.size + 1) scope.names (cloFrom X.env.cells scope.names [])) fp
  have pt := ht s3 (upd H2 Dl (.lst [])) s3.heap.objs.size
    (cellsFrom (s3.heap.objs.size + 1) scope.names (cloFrom X.env.cells scope.names [])) fp
  have pe := he s3 (upd H2 Dl (.lst [])) s3.heap.objs.size
    (cellsFrom (s3.heap.objs.size + 1) scope.names (cloFrom X.env.cells scope.names [])) fp
  show codeAny _ _ (.compStart (.ListComp elt [⟨tg, iter, ifs, 0⟩] scope pos) 0 (.ref it) (.ref Dl)
      (compEnvC scope (cellsFrom (s3.heap.objs.size + 1) scope.names (cloFrom X.env.cells scope.names [])) s3.heap.objs.size X.env))
    (compPost (model X.prog X.w) X.A X.xe none _ (.ref Dl) s3.heap.objs.size)
    { s3 with heap := pushCells (s3.heap.push { cls := .type "dict", data := .dict #[] }) scope.names }
  have nfp : ∀ b ∈ fp, (upd H2 Dl (.lst [])) b = none := fun b hb => (f3 b hb).1.1
  have kp : ∀ b o, s3.heap.get? b = some o → (pushCells (s3.heap.push { cls := .type "dict", data := .dict #[] }) scope.names).get? b = some o :=
    fun b o z => pushCells_keeps _ _ _ _ (Heap.get?_push_of_some _ z)
  obtain ⟨z1, z2, z3, z4, z5⟩ := I3.pin p0 (List.mem_append_left _ hp0)
  generalize hce : compEnvC scope (cellsFrom (s3.heap.objs.size + 1) scope.names
    (cloFrom X.env.cells scope.names [])) s3.heap.objs.size X.env = ce at I4 pg pt pe ⊢
  have cL : ce.locals = s3.heap.objs.size := by subst hce; rfl
  generalize hH3 : upd H2 Dl (.lst []) = H3 at I3 I4 pg pt pe w0 nfp f3 z2
  generalize hs4 : ({ s3 with heap := (pushCells (s3.heap.push (⟨.type "dict", none, .dict #[], #[]⟩ : Obj)) scope.names) } : Shared) = s4 at I4 ⊢
  have h4 : s4.heap = pushCells (s3.heap.push { cls := .type "dict", data := .dict #[] }) scope.names := by rw [← hs4]
  have st4 : tn 0 s4.heap := T.keep _ _ _ st3 fun b _ o z => by rw [h4]; exact kp b o z
  have J4 : Inv (blkH X s3 H3 scope ce fp p0) [] (wipe σ (own.map (·.2))) H3 s4 := by
    refine Inv.toTry (X := X.blk s3 H3 scope ce fp) (pins := [p0]) (I4.pins_of fun p hp => ?_) _
    obtain rfl : p = p0 := by simpa using hp
    refine ⟨by rw [h4]; exact kp _ _ z1, z2, ?_, fun hm => ?_, z5⟩
    · show p.1 ≠ ce.locals
      rw [cL]; exact Nat.ne_of_lt (Heap.lt_size z1)
    · rcases List.mem_cons.mp (I3.stkSub p.1 hm) with y | y
      · exact z3 y
      · exact z4 y
  have hotY : L2H.HotC (blkH X s3 H3 scope ce fp p0) := ⟨p0, hot, List.mem_cons_self⟩
  have nz : ∀ b ∈ fp, b ≠ p0.1 := fun b hb y => (f3 b hb).1.2.2.2.2.2 p0 (List.mem_append_left _ hp0) y.symm
  have stat : ∀ {σ' : L2.St} {H' : Hp} {s' : Shared}, Inv (blkH X s3 H3 scope ce fp p0) [] σ' H' s' → (∀ b ∈ fp, H' b = none) →
      ∀ b ∈ fp, FpOk (blkH X s3 H3 scope ce fp p0) [] H' b := fun {σ' H' s'} I' hn b hb =>
    ⟨hn b hb, (I'.ok.exf b hb).1, I'.ok.exfs b hb, .inl hb, fun x c z => (I'.ok.exf b hb).2 x c z, fun p hp => by
      obtain rfl : p = p0 := by simpa using hp
      exact fun y => nz b hb y.symm⟩
  have loop : codeAny (model X.prog X.w) X.A (.compLoop (.ListComp elt [⟨tg, iter, ifs, 0⟩] scope pos) 0 (.ref it) (.ref Dl) ce)
      (compPost (model X.prog X.w) X.A X.xe none (EP X pins σ Q) (.ref Dl) s3.heap.objs.size) s4 := by
    refine compLoop_any (fun n s' => ∃ i H', Inv (blkH X s3 H3 scope ce fp p0) [] (wipe σ (own.map (·.2))) H' s' ∧
      tn i s'.heap ∧ (∀ b ∈ fp, H' b = none) ∧ W i n H') ?_ m0 ⟨0, H3, J4, st4, nfp, w0⟩
    rintro n s5 ⟨i, H5, I5, st5, n5, w5⟩
    rcases turn i n H5 w5 with ⟨stop, qq⟩ | ⟨go, Nx, hNx, step⟩
    · refine thnF (T.done (blkH X s3 H3 scope ce fp p0) rfl rfl rfl hotY i [] s5 _ H5 (fun _ _ => False) I5 (stat I5 n5) st5 stop)
        fun r s6 ⟨hr, I6⟩ => ?_
      subst hr
      have I7 : Inv X pins σ H5 s6 := I3.call' (ch := fp) I6.os I6.base I6.hok I6.bare fun b hb =>
        ⟨(f3 b hb).1.2.2.2.1, (f3 b hb).1.2.1, (f3 b hb).1.2.2.2.2.1, (f3 b hb).1.2.2.2.2.2⟩
      have nC : H5 s3.heap.objs.size = none := by
        have y : H5 ce.locals = none := I6.free
        rw [cL] at y; exact y
      obtain ⟨m, hn, _⟩ := I6.loc
      have hn : s6.heap.Ns ce.locals m := hn
      rw [cL] at hn
      obtain ⟨g0, g1, g2, g3, g4, g5⟩ := I3.fpOk (Nat.le_refl _) nC
      exact ⟨m, hn, fun h'' sb => ⟨.ref Dl, H5, I7.turned (t' := s6.toks) (fun b o hb y => (sb.2 b hb).trans y) g0 g1 g3 g4 g5, rfl, qq⟩⟩
    · refine thnF (T.item (blkH X s3 H3 scope ce fp p0) rfl rfl rfl hotY i [] s5 _ H5 (fun _ _ => False) I5 (stat I5 n5) st5 go)
        fun r s6 ⟨u, hr, h6⟩ => ?_
      subst hr
      refine thnF h6 fun _ s7 ⟨x, H7, I7, r7, y7, st7, n7⟩ => ?_
      have I7' := I7.pinned (stat I7 n7) (T.obj _ _ st7)
      refine thnF (pg.run _ s7 _ H7 x u _ I7' r7 (step x H7 y7))
        fun _ s8 ⟨σ8, H8, I8, hw8, q8⟩ => ?_
      refine thnF (pt.run _ s8 σ8 H8 _ I8 q8) fun b s9 ⟨H9, I9, q9⟩ => ?_
      have fin : ∀ {s' : Shared} {H' : Hp}, Inv (blkH X s3 H3 scope ce fp p0) ([] ++ pinsAt fp s7.heap) σ8 H' s' → Nx H' →
          ∃ m, m < n ∧ ∃ i H', Inv (blkH X s3 H3 scope ce fp p0) [] (wipe σ (own.map (·.2))) H' s' ∧ tn i s'.heap ∧ (∀ b ∈ fp, H' b = none) ∧ W i m H' := fun {s' H'} I' nx => by
        obtain ⟨m', hm, w'⟩ := hNx H' nx
        have pin' : ∀ b ∈ fp, ∀ o, s7.heap.get? b = some o → s'.heap.get? b = some o ∧ H' b = none := fun b hb o y =>
          ⟨(I'.pin (b, o) (List.mem_append_right _ (List.mem_append_right _ (mem_pinsAt hb y)))).1,
            (I'.pin (b, o) (List.mem_append_right _ (List.mem_append_right _ (mem_pinsAt hb y)))).2.1⟩
        have hl : (wipe σ (own.map (·.2))).length = σ8.length := by rw [← hw8, wipe_length]
        refine ⟨m', hm, i + 1, H', (I'.unpinned (pins := [])).weak hl (fun j v y => ?_),
          T.keep _ _ _ st7 fun b hb o y => (pin' b hb o y).1, fun b hb => ?_, w'⟩
        · rw [← hw8] at y; exact (wipe_some y).1
        · exact (T.obj _ _ st7 b hb).elim fun o y => (pin' b hb o y.1).2
      cases b with
      | false =>
        simp only [Bool.false_eq_true, if_false] at q9 ⊢
        exact fin I9 q9
      | true =>
        simp only [if_true] at q9 ⊢
        refine thnF (pe.run _ s9 σ8 H9 _ I9 q9)
          fun z s10 ⟨yv, H10, I10, r10, acc, hD10, hz10, nx⟩ => ?_
        exact app_ok (X := blkH X s3 H3 scope ce fp p0) I10 hD10 hz10 r10 fun s11 I11 => fin I11 nx
  exact codeAny_compStart_list loop (T.self X.A 0 _ _ _ st4 loop)
theorem hot_of {X : Cx} {a : Addr} {oe : Obj} {cls : Value} {d : Option Addr} {pn : List (Addr × Obj)} (hz : L2N.Zn cls d oe) (hf : ∃ vs, oe.data = .fields vs) : L2H.Hot1 (X.suite a ((a, oe) :: pn)).A (a, oe) :=
  hf.elim fun vs e => ⟨rfl, vs, e, hz.2.2 vs e⟩
end L3
namespace L3
open PySem PySem.Spec PyProof.Rows L2
/-! ### isinstance of trees -/
def inInt : D → Bool | .int _ => true | .bool _ => true | _ => false
def inBool : D → Bool | .bool _ => true | _ => false
def inTup : D → Bool | .tuple _ => true | _ => false
def inList : D → Bool | .list _ => true | _ => false
def inStr : D → Bool | .str _ => true | _ => false
theorem kb_int (d : D) : kitB (tyN d) "int" = some (inInt d) := by
  cases d
  · show kitB "NoneType" "int" = some false; decide +kernel
  · show kitB "bool" "int" = some true; decide +kernel
  · show kitB "int" "int" = some true; decide +kernel
  · show kitB "str" "int" = some false; decide +kernel
  · show kitB "list" "int" = some false; decide +kernel
  · show kitB "tuple" "int" = some false; decide +kernel
  · show kitB "dict" "int" = some false; decide +kernel
theorem kb_bool (d : D) : kitB (tyN d) "bool" = some (inBool d) := by
  cases d
  · show kitB "NoneType" "bool" = some false; decide +kernel
  · show kitB "bool" "bool" = some true; decide +kernel
  · show kitB "int" "bool" = some false; decide +kernel
  · show kitB "str" "bool" = some false; decide +kernel
  · show kitB "list" "bool" = some false; decide +kernel
  · show kitB "tuple" "bool" = some false; decide +kernel
  · show kitB "dict" "bool" = some false; decide +kernel
theorem kb_tuple (d : D) : kitB (tyN d) "tuple" = some (inTup d) := by
  cases d
  · show kitB "NoneType" "tuple" = some false; decide +kernel
  · show kitB "bool" "tuple" = some false; decide +kernel
  · show kitB "int" "tuple" = some false; decide +kernel
  · show kitB "str" "tuple" = some false; decide +kernel
  · show kitB "list" "tuple" = some false; decide +kernel
  · show kitB "tuple" "tuple" = some true; decide +kernel
  · show kitB "dict" "tuple" = some false; decide +kernel
theorem kb_list (d : D) : kitB (tyN d) "list" = some (inList d) := by
  cases d
  · show kitB "NoneType" "list" = some false; decide +kernel
  · show kitB "bool" "list" = some false; decide +kernel
  · show kitB "int" "list" = some false; decide +kernel
  · show kitB "str" "list" = some false; decide +kernel
  · show kitB "list" "list" = some true; decide +kernel
  · show kitB "tuple" "list" = some false; decide +kernel
  · show kitB "dict" "list" = some false; decide +kernel
theorem kb_str (d : D) : kitB (tyN d) "str" = some (inStr d) := by
  cases d
  · show kitB "NoneType" "str" = some false; decide +kernel
  · show kitB "bool" "str" = some false; decide +kernel
  · show kitB "int" "str" = some false; decide +kernel
  · show kitB "str" "str" = some true; decide +kernel
  · show kitB "list" "str" = some false; decide +kernel
  · show kitB "tuple" "str" = some false; decide +kernel
  · show kitB "dict" "str" = some false; decide +kernel
/-- a whole number, neither True nor False -/
def isW : D → Bool | .int _ => true | _ => false
def isRow : D → Bool | .list _ => true | .tuple _ => true | _ => false
theorem isW_eq (d : D) : (inInt d && !inBool d) = isW d := by cases d <;> rfl
theorem isRow_eq (d : D) : (inTup d || inList d) = isRow d := by cases d <;> rfl
/-- of one tree -/
def R1 (f : D → Except Addr D) : List D → Except Addr D → Prop := fun ds r => ∃ d, ds = [d] ∧ r = f d
def R2' (f : D → D → Except Addr D) : List D → Except Addr D → Prop := fun ds r => ∃ d e, ds = [d, e] ∧ r = f d e
theorem rpa2 {K : Fg} {G : Hp} {xs : List V} {d e : D} (h : RpA K G xs [d, e]) : ∃ x y, xs = [x, y] ∧ Rp K G x d ∧ Rp K G y e := by
  cases h with
  | cons h1 h2 =>
    cases h2 with
    | cons h2 h3 => cases h3; exact ⟨_, _, rfl, h1, h2⟩
theorem rpa3 {K : Fg} {G : Hp} {xs : List V} {d e f : D} (h : RpA K G xs [d, e, f]) : ∃ x y z, xs = [x, y, z] ∧ Rp K G x d ∧ Rp K G y e ∧ Rp K G z f := by
  cases h with
  | cons h1 h2 =>
    cases h2 with
    | cons h2 h3 =>
      cases h3 with
      | cons h3 h4 => cases h4; exact ⟨_, _, _, rfl, h1, h2, h3⟩
end L3
namespace L3
open PySem PySem.Spec PyProof.Rows L2
/-! ### sum of a tuple of whole numbers -/
section
variable {prog : Program} {w : World} {A : Around} {E : Value → Shared → Prop} {s : Shared} {l : Addr} {its : List Value} {ns : List Int} {Q : Value → Shared → Prop}
theorem sum_tup (hh : A.handled = none) (hl : s.heap.IsTuple l its.toArray) (hi : IntsAre its ns)
    (h : ∀ h' tk t', (∀ b o, s.heap.get? b = some o → h'.get? b = some o) → Q (.int ns.sum t') { s with heap := h', toks := tk }) : wpAny (model prog w) A (call (.builtin "sum") [.ref l]) Q E s := by
  obtain ⟨xs, e⟩ := hi.allInts.items
  have hn : numsOf (intItems xs).toList = ns := by rw [← e]; exact hi.numsOf
  rw [nums_intItems] at hn
  rw [e] at hl
  have hlt : l < s.heap.objs.size := by obtain ⟨_, z, _⟩ := hl; exact Heap.lt_size z
  refine call_sum_walkG (wpAny_pyIter_tuple hl ?_)
  have st : (s.heap.push { cls := .type "tuple_iterator", data := .fields #[.ref l, .int 0 0] }).IsTupleIter s.heap.objs.size l 0 := ⟨_, Heap.get?_push_size _ rfl, rfl, rfl⟩
  refine ⟨_, _, _, _, _, _, numAt xs, rfl, Walks.tuple (A := A.in1) hh _ l (Nat.ne_of_lt hlt) (intItems xs), ⟨st, hl.push _⟩, fun b hb => ?_, (fun _ _ => intItems_at), fun h' tk t' hk => ?_⟩
  · show b < (s.heap.push _).objs.size
    rw [Heap.size_push]
    rcases List.mem_cons.mp hb with rfl | hb
    · exact Nat.lt_succ_self _
    · rcases List.mem_cons.mp hb with rfl | hb
      · exact Nat.lt_succ_of_lt hlt
      · cases hb
  · have := h h' tk t' (fun b o z => hk b o (fun hm => by
      rcases List.mem_cons.mp hm with e1 | hm
      · exact absurd (e1 ▸ Heap.lt_size z) (Nat.lt_irrefl _)
      · cases hm) (Heap.get?_push_of_some _ z))
    rw [show (intItems xs).size = xs.size by simp [intItems], preSum_eq, List.take_of_length_le (by simp), hn]
    exact this
end
section
variable {X : Cx} {K : Fg} {σ : L2.St} {G H : Hp} {ta tb te : TE} {d : D}
def rSumT (K : Fg) : List V → Hp → VK → Prop := fun vs H Q => ∃ (a : Addr) (ns : List Int), vs = [V.ref a] ∧ SqT K H a (ns.map V.int) ∧ Q (.int ns.sum) H
theorem cr_sumT (hc : X.calm = true) : CallR X (.builtin "sum") (rSumT X.K) := by
  intro pins s σ H vs us Q I r h
  obtain ⟨a, ns, rfl, hs, q⟩ := h
  obtain ⟨its, rv, hl, _⟩ := I.tuple hs
  rw [Vals.ref1 r]
  exact sum_tup (I.ok.hd hc) hl rv.ints fun h' tk t' hk => ⟨.int _, H, I.kept hk, ⟨_, rfl⟩, q⟩
theorem ed_sumT {ns : List Int} (ha : EvD K ta σ G H (.tuple (iL ns))) : EvD K (tCB (rSumT K) (tCons ta tNil)) σ G H (.int ns.sum) :=
  ed_b1 ha fun x G1 H1 w hx Q q => by
    cases hx with
    | tup hs hl => exact ⟨_, ns, rfl, dpa_iL hl ▸ sqt_up w.b hs, q _ _ _ (Wk.refl w.b) (.int _)⟩
/-! ### // and % by a positive number -/
theorem ed_modP {i j : Int} (ha : EvD K ta σ G H (.int i)) (hb : EvD K tb σ G H (.int j)) (hc : 0 < j) : EvD K (tOp (rI (fun _ j => 0 < j) fun i j => .int (i % j)) ta tb) σ G H (.int (i % j)) := ed_I (C := fun _ j => 0 < j) ha hb hc fun _ => .int _
theorem ed_divP {i j : Int} (ha : EvD K ta σ G H (.int i)) (hb : EvD K tb σ G H (.int j)) (hc : CDiv i j) : EvD K (tOp (rI CDiv fun i j => .int (i / j)) ta tb) σ G H (.int (i / j)) := ed_I ha hb hc fun _ => .int _
theorem ed_divW {i j : Int} (ha : EvD K ta σ G H (.int i)) (hb : EvD K tb σ G H (.int j)) (hc : CDivW i j) : EvD K (tOp (rI CDivW fun i j => .int (i / j)) ta tb) σ G H (.int (i / j)) := ed_I ha hb hc fun _ => .int _
theorem ed_mulW {i j : Int} (ha : EvD K ta σ G H (.int i)) (hb : EvD K tb σ G H (.int j)) (hc : CMulW i j) : EvD K (tOp (rI CMulW fun i j => .int (i * j)) ta tb) σ G H (.int (i * j)) := ed_I ha hb hc fun _ => .int _
theorem ed_mapT {tl : TE} {j : Nat} {vs : List Nat} {ds : List D} (f : D → D) (h : EvD K tl σ G H (.tuple ds)) (hz : ds.length ≤ 500000) (hw : ∀ v, wipe ((wipe σ vs).set j (some v)) vs = wipe σ vs)
    (he : ∀ d ∈ ds, ∀ v G1 H1, Wk G H G1 H1 → Rp K G1 v d → EvD K te ((wipe σ vs).set j (some v)) G1 H1 (f d)) : EvD K (tLc (iTup K tl) (gName j) tYes te vs) σ G H (.list (ds.map f)) := by
  rw [← fm_true f ds]
  exact ed_lcT _ f h hz fun d hd v G1 H1 w r => turn_n (hw v) (he d hd v G1 H1 w r)
theorem ed_mapL {tl : TE} {j : Nat} {vs : List Nat} {ds : List D} (f : D → D) (h : EvD K tl σ G H (.list ds)) (hz : ds.length ≤ 500000) (hw : ∀ v, wipe ((wipe σ vs).set j (some v)) vs = wipe σ vs)
    (he : ∀ d ∈ ds, ∀ v G1 H1, Wk G H G1 H1 → Rp K G1 v d → EvD K te ((wipe σ vs).set j (some v)) G1 H1 (f d)) : EvD K (tLc (iList K tl) (gName j) tYes te vs) σ G H (.list (ds.map f)) := by
  rw [← fm_true f ds]
  exact ed_lcL _ f h hz fun d hd v G1 H1 w r => turn_n (hw v) (he d hd v G1 H1 w r)
/-- the same over a list or a tuple -/
theorem ed_mapS {tl : TE} {j : Nat} {vs : List Nat} {ds : List D} (f : D → D) (h : EvD K tl σ G H d) (hd : d = .list ds ∨ d = .tuple ds) (hz : ds.length ≤ 500000) (hw : ∀ v, wipe ((wipe σ vs).set j (some v)) vs = wipe σ vs)
    (he : ∀ d ∈ ds, ∀ v G1 H1, Wk G H G1 H1 → Rp K G1 v d → EvD K te ((wipe σ vs).set j (some v)) G1 H1 (f d)) : EvD K (tLc (iSeq K tl) (gName j) tYes te vs) σ G H (.list (ds.map f)) := by
  rcases hd with rfl | rfl
  · exact lcS_l (ed_mapL f h hz hw he)
  · exact lcS_t (ed_mapT f h hz hw he)
theorem ed_lenS {ds : List D} (ha : EvD K ta σ G H d) (hd : d = .list ds ∨ d = .tuple ds) : EvD K (tCB (rLen K) (tCons ta tNil)) σ G H (.int ds.length) := by
  rcases hd with rfl | rfl
  · exact ed_lenL ha
  · exact ed_lenT ha
theorem ed_tupS {ds : List D} (ha : EvD K ta σ G H d) (hd : d = .list ds ∨ d = .tuple ds) : EvD K (tCB (rTupOf K) (tCons ta tNil)) σ G H (.tuple ds) := by
  rcases hd with rfl | rfl
  · exact ed_tupL ha
  · exact ed_tupT ha
theorem ed_listS {ds : List D} (ha : EvD K ta σ G H d) (hd : d = .list ds ∨ d = .tuple ds) : EvD K (tCB (rListOf K) (tCons ta tNil)) σ G H (.list ds) := by
  rcases hd with rfl | rfl
  · exact ed_listL ha
  · exact ed_listT ha
theorem map_bL (g : D → Bool) (ds : List D) : ds.map (fun d => PyData.bool (g d)) = bL (ds.map g) := by
  unfold bL; rw [List.map_map]; rfl
theorem seq_i {t u : TS} {E : Ends} (h : t { E with nx := u E } σ H) : tSeq t u E σ H := h
end
end L3
namespace L3
open PySem PySem.Spec PyProof.Rows L2
/-! ### statements with something behind -/
section
variable {K : Fg} {σ : L2.St} {G H G0 H0 : Hp} {ta tb te tx tl : TE} {tt : TT} {d e : D} {E : Ends} {tu tw tz : TS} {g : TG}
variable (K)
theorem q_if {c : Bool} (b : Same G H) (h : EvB K tt σ G H c) (h1 : c = true → ∀ G1 H1, Wk G H G1 H1 → tu { E with nx := tz E } σ H1) (h2 : c = false → ∀ G1 H1, Wk G H G1 H1 → tw { E with nx := tz E } σ H1) : tSeq (tIfS tt tu tw) tz E σ H := s_if K (E := { E with nx := tz E }) b h h1 h2
theorem q_when {c : Bool} (b : Same G H) (h : EvB K tt σ G H c) (h1 : c = true → ∀ G1 H1, Wk G H G1 H1 → tu { E with nx := tz E } σ H1) (h2 : c = false → ∀ G1 H1, Wk G H G1 H1 → tz E σ H1) : tSeq (tIfS tt tu tNext) tz E σ H := s_if K (E := { E with nx := tz E }) b h h1 h2
theorem s_when {c : Bool} (b : Same G H) (h : EvB K tt σ G H c) (h1 : c = true → ∀ G1 H1, Wk G H G1 H1 → tu E σ H1) (h2 : c = false → ∀ G1 H1, Wk G H G1 H1 → E.nx σ H1) : tIfS tt tu tNext E σ H := s_if K b h h1 h2
theorem q_drop (b : Same G H) (h : EvD K te σ G H d) (q : ∀ G1 H1, Wk G H G1 H1 → tz E σ H1) : tSeq (tDrop te) tz E σ H := s_drop K (E := { E with nx := tz E }) b h q
theorem q_set {i : Nat} (b : Same G H) (h : EvD K te σ G H d) (q : ∀ v G1 H1, Wk G H G1 H1 → Rp K G1 v d → tz E (σ.set i (some v)) H1) : tSeq (tAsg te (gName i)) tz E σ H := s_set K (E := { E with nx := tz E }) b h q
theorem q_setI {i : Nat} {n : Int} (b : Same G H) (h : EvD K te σ G H (.int n)) (q : ∀ G1 H1, Wk G H G1 H1 → tz E (σ.set i (some (.int n))) H1) : tSeq (tAsg te (gName i)) tz E σ H := s_setI K (E := { E with nx := tz E }) b h q
theorem q_par {i j : Nat} {a : TA} {d1 d2 : D} (b : Same G H) (h : EvA K a σ G H [d1, d2]) (q : ∀ x y G1 H1, Wk G H G1 H1 → Rp K G1 x d1 → Rp K G1 y d2 → tz E ((σ.set i (some x)).set j (some y)) H1) : tSeq (tPar i j a) tz E σ H := s_par K (E := { E with nx := tz E }) b h q
theorem q_parI {i j : Nat} {a : TA} {m n : Int} (b : Same G H) (h : EvA K a σ G H [.int m, .int n]) (q : ∀ G1 H1, Wk G H G1 H1 → tz E ((σ.set i (some (.int m))).set j (some (.int n))) H1) : tSeq (tPar i j a) tz E σ H := s_parI K (E := { E with nx := tz E }) b h q
theorem q_two {i j : Nat} {d1 d2 : D} (b : Same G H) (h : EvD K te σ G H (.tuple [d1, d2])) (q : ∀ x y G1 H1, Wk G H G1 H1 → Rp K G1 x d1 → Rp K G1 y d2 → tz E ((σ.set i (some x)).set j (some y)) H1) :
    tSeq (tAsg te (gTup K 2 (gCons (gName i) (gCons (gName j) gNil)))) tz E σ H := s_two K (E := { E with nx := tz E }) b h q
theorem q_twoI {i j : Nat} {m n : Int} (b : Same G H) (h : EvD K te σ G H (.tuple [.int m, .int n])) (q : ∀ G1 H1, Wk G H G1 H1 → tz E ((σ.set i (some (.int m))).set j (some (.int n))) H1) :
    tSeq (tAsg te (gTup K 2 (gCons (gName i) (gCons (gName j) gNil)))) tz E σ H := s_twoI K (E := { E with nx := tz E }) b h q
theorem q_four {i j k l : Nat} {d1 d2 d3 d4 : Int} (b : Same G H) (h : EvD K te σ G H (.tuple [.int d1, .int d2, .int d3, .int d4])) (q : ∀ G1 H1, Wk G H G1 H1 → tz E ((((σ.set i (some (.int d1))).set j (some (.int d2))).set k (some (.int d3))).set l (some (.int d4))) H1) :
    tSeq (tAsg te (gTup K 4 (gCons (gName i) (gCons (gName j) (gCons (gName k) (gCons (gName l) gNil)))))) tz E σ H := s_four K (E := { E with nx := tz E }) b h q
theorem q_new {i : Nat} (b : Same G H) (q : ∀ p, H p = none → tz E (σ.set i (some (.ref p))) (upd H p (.lst []))) : tSeq (tAsg (tLst tNil) (gName i)) tz E σ H := s_new (E := { E with nx := tz E }) b q
theorem q_app {i : Nat} {p : Addr} {xs : List V} (b : Same G H) (hs : σ[i]? = some (some (.ref p))) (gp : G p = none) (hp : H p = some (.lst xs)) (hl : xs.length < 1000000) (h : EvD K te σ G H d)
    (q : ∀ v G1 H1, Wk G H G1 H1 → G1 p = none → H1 p = some (.lst xs) → Rp K G1 v d → tz E σ (upd H1 p (.lst (xs ++ [v])))) : tSeq (tDrop (tBM K "list" rAppend (tVar i) (tCons te tNil))) tz E σ H := s_app K (E := { E with nx := tz E }) b hs gp hp hl h q
theorem q_forT {ds : List D} (Inv : Nat → L2.St → Hp → Hp → Prop) (w0 : Wk G0 H0 G H) (h : EvD K tl σ G H (.tuple ds)) (h0 : ∀ G1 H1, Wk G H G1 H1 → Inv 0 σ G1 H1)
    (hs : ∀ i d v σ' G1 H1, ds[i]? = some d → Rp K G1 v d → Wk G0 H0 G1 H1 → Same G G1 → Inv i σ' G1 H1 → g v σ' H1 fun σ2 H2 => tu { E with nx := Btw G0 H0 G1 (Inv (i + 1)), ct := Btw G0 H0 G1 (Inv (i + 1)), bk := tz E } σ2 H2)
    (hd : ∀ σ' G1 H1, Wk G0 H0 G1 H1 → Same G G1 → Inv ds.length σ' G1 H1 → tz E σ' H1) : tSeq (tFor (iTup K tl) g tu) tz E σ H := s_forT K (E := { E with nx := tz E }) Inv w0 h h0 hs hd
theorem q_forL {ds : List D} (Inv : Nat → L2.St → Hp → Hp → Prop) (w0 : Wk G0 H0 G H) (h : EvD K tl σ G H (.list ds)) (h0 : ∀ G1 H1, Wk G H G1 H1 → Inv 0 σ G1 H1)
    (hs : ∀ i d v σ' G1 H1, ds[i]? = some d → Rp K G1 v d → Wk G0 H0 G1 H1 → Same G G1 → Inv i σ' G1 H1 → g v σ' H1 fun σ2 H2 => tu { E with nx := Btw G0 H0 G1 (Inv (i + 1)), ct := Btw G0 H0 G1 (Inv (i + 1)), bk := tz E } σ2 H2)
    (hd : ∀ σ' G1 H1, Wk G0 H0 G1 H1 → Same G G1 → Inv ds.length σ' G1 H1 → tz E σ' H1) : tSeq (tFor (iList K tl) g tu) tz E σ H := s_forL K (E := { E with nx := tz E }) Inv w0 h h0 hs hd
theorem q_forR1 {a : TA} {n : Int} (Inv : Nat → L2.St → Hp → Hp → Prop) (w0 : Wk G0 H0 G H) (h : EvA K a σ G H [.int n]) (hn : -1000000 ≤ n ∧ n ≤ 1000000) (h0 : ∀ G1 H1, Wk G H G1 H1 → Inv 0 σ G1 H1)
    (hs : ∀ (i : Nat) σ' G1 H1, (i : Int) < n → Wk G0 H0 G1 H1 → Same G G1 → Inv i σ' G1 H1 → g (.int i) σ' H1 fun σ2 H2 => tu { E with nx := Btw G0 H0 G1 (Inv (i + 1)), ct := Btw G0 H0 G1 (Inv (i + 1)), bk := tz E } σ2 H2)
    (hd : ∀ σ' G1 H1, Wk G0 H0 G1 H1 → Same G G1 → Inv n.toNat σ' G1 H1 → tz E σ' H1) : tSeq (tFor (iRng1 a) g tu) tz E σ H := s_forR1 K (E := { E with nx := tz E }) Inv w0 h hn h0 hs hd
theorem q_forR2 {a : TA} {lo n : Int} (Inv : Nat → L2.St → Hp → Hp → Prop) (w0 : Wk G0 H0 G H) (h : EvA K a σ G H [.int lo, .int n]) (hn : -1000000 ≤ n ∧ n ≤ 1000000 ∧ -1000000 ≤ lo ∧ lo ≤ 1000000) (h0 : ∀ G1 H1, Wk G H G1 H1 → Inv 0 σ G1 H1)
    (hs : ∀ (i : Nat) σ' G1 H1, lo + (i : Int) < n → Wk G0 H0 G1 H1 → Same G G1 → Inv i σ' G1 H1 → g (.int (lo + i)) σ' H1 fun σ2 H2 => tu { E with nx := Btw G0 H0 G1 (Inv (i + 1)), ct := Btw G0 H0 G1 (Inv (i + 1)), bk := tz E } σ2 H2)
    (hd : ∀ σ' G1 H1, Wk G0 H0 G1 H1 → Same G G1 → Inv (n - lo).toNat σ' G1 H1 → tz E σ' H1) : tSeq (tFor (iRng2 a) g tu) tz E σ H := s_forR2 K (E := { E with nx := tz E }) Inv w0 h hn h0 hs hd
theorem q_while {m0 : Nat} (Inv : Nat → L2.St → Hp → Hp → Prop) (w0 : Wk G0 H0 G H) (h0 : Inv m0 σ G H)
    (hs : ∀ m σ' G1 H1, Wk G0 H0 G1 H1 → Inv m σ' G1 H1 → ∃ b, EvB K tt σ' G1 H1 b ∧ (b = true → ∀ G2 H2, Wk G1 H1 G2 H2 → Wk G0 H0 G2 H2 →
        tu { E with nx := fun σ3 H3 => ∃ m' G3, m' < m ∧ Wk G0 H0 G3 H3 ∧ Inv m' σ3 G3 H3, ct := fun σ3 H3 => ∃ m' G3, m' < m ∧ Wk G0 H0 G3 H3 ∧ Inv m' σ3 G3 H3, bk := tz E } σ' H2) ∧
      (b = false → ∀ G2 H2, Wk G1 H1 G2 H2 → Wk G0 H0 G2 H2 → tz E σ' H2)) : tSeq (tWhile tt tu) tz E σ H := s_while K (E := { E with nx := tz E }) Inv w0 h0 hs
end
section
variable {K : Fg} {σ : L2.St} {G H : Hp} {ta tb te tx tl : TE} {d e : D} {E : Ends} {tz : TS} {g : TG} {tu : TS}
/-- tuple(x), x an owned list -/
theorem ed_tupO {i : Nat} {p : Addr} {xs : List V} {ds : List D} (hs : σ[i]? = some (some (.ref p))) (hp : H p = some (.lst xs)) (hr : RpA K G xs ds) : EvD K (tCB (rTupOf K) (tCons (tVar i) tNil)) σ G H (.tuple ds) := fun G1 H1 w Q q =>
  ⟨_, hs, p, xs, rfl, .inl ⟨SqL.of (w.h p _ hp), fun l hl => q _ _ _ (Wk.new w.b hl) (.tup (SqT.of upd_same) (dpa_up (w.g.trans (Wk.new w.b hl).g) hr))⟩⟩
theorem ed_lenO {i : Nat} {p : Addr} {xs : List V} (hs : σ[i]? = some (some (.ref p))) (hp : H p = some (.lst xs)) : EvD K (tCB (rLen K) (tCons (tVar i) tNil)) σ G H (.int xs.length) := fun G1 H1 w Q q =>
  ⟨_, hs, p, xs, rfl, .inl (SqL.of (w.h p _ hp)), q _ _ _ (Wk.refl w.b) (.int _)⟩
variable (K)
/-- if c: x = e, x a whole number behind it either way -/
theorem q_ifI {i : Nat} {n : Int} {c : Bool} {tt : TT} (b : Same G H) (h : EvB K tt σ G H c) (h1 : c = true → EvD K te σ G H (.int n)) (h2 : c = false → σ.set i (some (.int n)) = σ)
    (q : ∀ G1 H1, Wk G H G1 H1 → tz E (σ.set i (some (.int n))) H1) : tSeq (tIfS tt (tAsg te (gName i)) tNext) tz E σ H :=
  q_when K b h (fun e G1 H1 w1 => s_setI K w1.b ((h1 e).up w1) fun G2 H2 w2 => q G2 H2 (w1.trans w2)) fun e G1 H1 w1 => by
    have := q G1 H1 w1
    rw [h2 e] at this
    exact this
end
end L3
namespace L3
open PySem PySem.Spec PyProof.Rows L2
/-! ### an owned list that is handed on; the pool from which a law draws -/
structure Wp (a : Addr) (G H G1 H1 : Hp) : Prop where
  g : Same G G1
  b : Same G1 H1
  h : ∀ p o, p ≠ a → H p = some o → H1 p = some o
  n : ∀ p, H p ≠ none → G p = none → G1 p = none
  s : H a ≠ none → H1 a ≠ none
theorem Wk.wp {a : Addr} {G H G1 H1 : Hp} (x : Wk G H G1 H1) : Wp a G H G1 H1 := ⟨x.g, x.b, fun p o _ e => x.h p o e, x.n, fun q => by
  cases e : H a with
  | none => exact absurd e q
  | some o => rw [x.h a o e]; simp⟩
theorem Wp.refl {a : Addr} {G H : Hp} (b : Same G H) : Wp a G H G H := (Wk.refl b).wp
theorem Wp.trans {a : Addr} {G H G1 H1 G2 H2 : Hp} (x : Wp a G H G1 H1) (y : Wp a G1 H1 G2 H2) : Wp a G H G2 H2 :=
  ⟨x.g.trans y.g, y.b, fun p o q e => y.h p o q (x.h p o q e), fun p h1 h2 => y.n p (fun e => by
    by_cases q : p = a
    · subst q; exact x.s h1 e
    · cases e1 : H p with
      | none => exact h1 e1
      | some o => rw [x.h p o q e1] at e; cases e) (x.n p h1 h2), fun q => y.s (x.s q)⟩
theorem Wp.mut {a : Addr} {G H G1 H1 : Hp} {o : HO} (x : Wp a G H G1 H1) (g : G1 a = none) : Wp a G H G1 (upd H1 a o) :=
  ⟨x.g, fun p u e => by rw [upd_ne (ne_of_none e g)]; exact x.b p u e, fun p u q e => by rw [upd_ne q]; exact x.h p u q e, x.n, fun _ => by rw [upd_same]; simp⟩
/-- what Wp leaves where the address was not there before -/
theorem Wp.keep {a p : Addr} {G H G1 H1 : Hp} {o : HO} (x : Wp a G H G1 H1) (hp : H p = some o) (q : p ≠ a) (gp : G p = none) : H1 p = some o ∧ G1 p = none :=
  ⟨x.h p o q hp, x.n p (by rw [hp]; simp) gp⟩
section
variable {K : Fg} {σ : L2.St} {G H G0 H0 : Hp} {ta tb te tx tl : TE} {d e : D} {E : Ends} {tz : TS}
/-- x[j], x an owned list, j written -/
theorem ed_ixO {i : Nat} {p : Addr} {xs : List V} {j : Int} {v : V} (hs : σ[i]? = some (some (.ref p))) (hp : H p = some (.lst xs)) (hj : atI xs j = some v) (hd : Rp K G v d) (hb : EvD K tb σ G H (.int j)) : EvD K (tOp (rIx2 K) (tVar i) tb) σ G H d := fun G1 H1 w Q q =>
  ⟨_, hs, hb G1 H1 w _ fun y G2 H2 w2 hy => by
    cases hy
    exact .inl ⟨p, xs, j, v, rfl, rfl, SqL.of ((w.trans w2).h p _ hp), hj, q v G2 H2 w2 (dp_up (w.g.trans w2.g) hd)⟩⟩
variable (K)
/-- x[j] = e, x an owned list -/
theorem q_put {i : Nat} {p : Addr} {xs : List V} {j : Nat} {z : Int} (b : Same G H) (h : EvD K te σ G H d) (hs : σ[i]? = some (some (.ref p))) (gp : G p = none) (hp : H p = some (.lst xs)) (hz : ixN xs.length z = some j)
    (q : ∀ v G1 H1, Wk G H G1 H1 → G1 p = none → Rp K G1 v d → tz E σ (upd H1 p (.lst (xs.set j v)))) : tSeq (tAsg te (gSub (tVar i) (tC (.int z)) rSetL)) tz E σ H :=
  h G H (Wk.refl b) _ fun v G1 H1 w r => by
    have k := w.keep hp gp
    exact ⟨_, hs, p, xs, z, j, rfl, rfl, k.1, hz, q v G1 H1 w k.2 r⟩
theorem s_put {i : Nat} {p : Addr} {xs : List V} {j : Nat} {z : Int} (b : Same G H) (h : EvD K te σ G H d) (hs : σ[i]? = some (some (.ref p))) (gp : G p = none) (hp : H p = some (.lst xs)) (hz : ixN xs.length z = some j)
    (q : ∀ v G1 H1, Wk G H G1 H1 → G1 p = none → Rp K G1 v d → E.nx σ (upd H1 p (.lst (xs.set j v)))) : tAsg te (gSub (tVar i) (tC (.int z)) rSetL) E σ H :=
  h G H (Wk.refl b) _ fun v G1 H1 w r => by
    have k := w.keep hp gp
    exact ⟨_, hs, p, xs, z, j, rfl, rfl, k.1, hz, q v G1 H1 w k.2 r⟩
end
/-- a list is handed back as an owned one -/
theorem s_retL {K : Fg} {σ : L2.St} {G H : Hp} {ta : TA} {ds : List D} {E : Ends} (b : Same G H) (h : EvA K ta σ G H ds) (q : ∀ vs G1 H1 p, Wk G H G1 H1 → RpA K G1 vs ds → H1 p = none → E.rt (.ref p) (upd H1 p (.lst vs))) (hl : ds.length ≤ 1000000 := by exact Nat.le_of_ble_eq_true rfl) : tRet (tLst ta) E σ H :=
  h G H (Wk.refl b) _ fun vs G1 H1 w hv => ⟨Nat.le_trans (Nat.le_of_eq (dpa_len hv)) (Nat.le_trans hl (by decide)), fun p hp => q vs G1 H1 p w hv hp⟩
/-- a pool stands at a -/
def Pool (K : Fg) (G H : Hp) (a : Addr) : Prop := G a = none ∧ ∃ (c : Addr) (cells : List Int) (i r s : Int), H a = some (.lst [.ref c, .int i, .int r, .int s]) ∧ SqL K G c (cells.map V.int) ∧
  (∀ x ∈ cells, 0 ≤ x) ∧ cells.length ≤ 63 ∧ 0 ≤ i ∧ 0 ≤ r ∧ 0 ≤ s ∧ s < 2147483647
theorem Pool.up {K : Fg} {a : Addr} {G H G1 H1 : Hp} (p : Pool K G H a) (w : Wk G H G1 H1) : Pool K G1 H1 a := by
  obtain ⟨g, c, cells, i, r, s, h, hs, rest⟩ := p
  have k := w.keep h g
  exact ⟨k.2, c, cells, i, r, s, k.1, sql_up w.g hs, rest⟩
/-- drawn below many -/
def spTake (K : Fg) : Sp := fun vs H Q _ => ∃ (G : Hp) (a : Addr) (many : Int), vs = [.ref a, .int many] ∧ Same G H ∧ Pool K G H a ∧ 0 < many ∧ many < 1073741824 ∧
  ∀ d G1 H1, 0 ≤ d → d < many → Wp a G H G1 H1 → Pool K G1 H1 a → Q (.int d) H1
theorem spTake_len {K : Fg} : ∀ vs H Q E, spTake K vs H Q E → vs.length = 2 := fun vs H Q E h => by
  obtain ⟨_, _, _, rfl, _⟩ := h; rfl
/-- one of a list's, a tuple's items -/
def spPick (K : Fg) : Sp := fun vs H Q _ => ∃ (G : Hp) (a : Addr) (x : V) (d : D) (ds : List D), vs = [.ref a, x] ∧ Same G H ∧ Pool K G H a ∧ Rp K G x d ∧ (d = .list ds ∨ d = .tuple ds) ∧ ds ≠ [] ∧ ds.length < 1000000 ∧
  ∀ v e G1 H1, e ∈ ds → Wp a G H G1 H1 → Pool K G1 H1 a → Rp K G1 v e → Q v H1
theorem spPick_len {K : Fg} : ∀ vs H Q E, spPick K vs H Q E → vs.length = 2 := fun vs H Q E h => by
  obtain ⟨_, _, _, _, _, rfl, _⟩ := h; rfl
/-- drawn below a great number -/
def spBelow (K : Fg) : Sp := fun vs H Q _ => ∃ (G : Hp) (a : Addr) (many : Int), vs = [.ref a, .int many] ∧ Same G H ∧ Pool K G H a ∧ 0 < many ∧
  ∀ d G1 H1, 0 ≤ d → d < many → Wp a G H G1 H1 → Pool K G1 H1 a → Q (.int d) H1
theorem spBelow_len {K : Fg} : ∀ vs H Q E, spBelow K vs H Q E → vs.length = 2 := fun vs H Q E h => by
  obtain ⟨_, _, _, rfl, _⟩ := h; rfl
/-- a row as a list or as a tuple -/
def spGiven (K : Fg) : Sp := fun vs H Q _ => ∃ (G : Hp) (a : Addr) (x : V) (d : D) (ds : List D), vs = [.ref a, x] ∧ Same G H ∧ Pool K G H a ∧ Rp K G x d ∧ (d = .list ds ∨ d = .tuple ds) ∧
  ∀ v e G1 H1, (e = .list ds ∨ e = .tuple ds) → Wp a G H G1 H1 → Pool K G1 H1 a → Rp K G1 v e → Q v H1
theorem spGiven_len {K : Fg} : ∀ vs H Q E, spGiven K vs H Q E → vs.length = 2 := fun vs H Q E h => by
  obtain ⟨_, _, _, _, _, rfl, _⟩ := h; rfl
/-- a pool is made -/
def spPool (K : Fg) : Sp := fun vs H Q _ => ∃ (G : Hp) (a : Addr) (ns : List Int), vs = [.ref a] ∧ Same G H ∧ SqL K G a (ns.map V.int) ∧ ns.length ≤ 63 ∧
  ∀ p G1 H1, H p = none → Wk G H G1 H1 → Pool K G1 H1 p → Q (.ref p) H1
theorem spPool_len {K : Fg} : ∀ vs H Q E, spPool K vs H Q E → vs.length = 1 := fun vs H Q E h => by
  obtain ⟨_, _, _, rfl, _⟩ := h; rfl
section
variable {K : Fg} {σ : L2.St} {G H : Hp} {te : TE}
theorem ed_isE {D C a : Addr} {i : Nat} {b : Bool} (hs : σ[i]? = some (some (.ref a))) (hD : ExcC K D) (hk : PySem.W.kitOne K (.ref D) (.ref C) = some b) : EvD K (tIsE K (.ref D) none a (tCons (tVar i) (tCons (tC (.ref C)) tNil))) σ G H (.bool b) := fun G1 H1 w Q q =>
  ⟨D, rfl, rfl, hD, _, hs, .ref C, .ref C, b, rfl, fun u h => h, hk, q _ _ _ (Wk.refl w.b) (.bl _)⟩
theorem eb_truB {b : Bool} (h : EvD K te σ G H (.bool b)) : EvB K (fun σ H Q => te σ H fun x H' => ∃ k, TruV K x H' k ∧ Q k H') σ G H b :=
  eb_tru h fun x G1 H1 b hx Q q => ⟨_, rp_tru b hx (fun s e => by cases e) (fun ds e => by cases e), q⟩
end
end L3
/-! More small rules. -/
namespace L3
open PySem PySem.Spec PyProof.Rows L2
variable {K : Fg} {σ : L2.St} {G H : Hp} {te ta tb tc : TE} {tt : TT} {d e : D}
theorem dpa_rep {xs : List V} {ds : List D} (h : RpA K G xs ds) : ∀ n, RpA K G (List.replicate n xs).flatten (List.replicate n ds).flatten
  | 0 => .nil
  | n + 1 => dpa_app h (dpa_rep h n)
theorem ed_repT {ds : List D} {k : Int} (ha : EvD K ta σ G H (.tuple ds)) (hb : EvD K tb σ G H (.int k)) (hn : ds ≠ []) (h0 : 2 ≤ k) (h1 : k ≤ 1000) (hl : ds.length ≤ 1000) : EvD K (tOp (rRepT K) ta tb) σ G H (.tuple (List.replicate k.toNat ds).flatten) :=
  ed_two ha hb fun x y G1 H1 w hx hy Q q => by
    cases hy
    cases hx with
    | @tup a xs _ hs hr =>
      have e := dpa_len hr
      exact ⟨a, k, xs, rfl, rfl, sqt_up w.b hs, fun z => hn (List.eq_nil_of_length_eq_zero (by rw [← e, z]; rfl)), h0, h1, by omega, fun p hp => q _ _ _ (Wk.new w.b hp) (.tup (SqT.of upd_same) (dpa_rep (dpa_up (Wk.new w.b hp).g hr) _))⟩
/-- [..] * k -/
theorem ed_repL {tas : TA} {ds : List D} {k : Int} (h : EvA K tas σ G H ds) (h0 : 0 ≤ k) (h1 : k ≤ 1000) (hl : ds.length ≤ 1000) : EvD K (tOp rRep (tLst tas) (tC (.int k))) σ G H (.list (List.replicate k.toNat ds).flatten) := fun G1 H1 w Q q =>
  h G1 H1 w _ fun vs G2 H2 w2 hv => by
    have e := dpa_len hv
    refine ⟨by rw [e]; exact Nat.le_trans hl (by decide), fun l hl2 => ?_⟩
    have wl := Wk.new (o := .lst vs) w2.b hl2
    refine ⟨l, k, vs, rfl, rfl, upd_same, by omega, by omega, ?_, fun p hp => ?_⟩
    · have : vs.length * k.toNat ≤ 1000 * 1000 := Nat.mul_le_mul (by omega) (by omega)
      exact Nat.le_trans this (by decide)
    · have wp := Wk.new (o := .lst (List.replicate k.toNat vs).flatten) wl.b hp
      exact q _ _ _ ((w2.trans wl).trans wp) (.lst (SqL.of upd_same) (dpa_rep (dpa_up (wl.g.trans wp.g) hv) _))
mutual
theorem eqv_refl : ∀ {d : D}, d.canLay0 = true → PyData.eqv d d = true
  | .none, _ => rfl
  | .bool b, _ => by simp [PyData.eqv]
  | .int i, _ => by simp [PyData.eqv]
  | .str s, _ => by simp [PyData.eqv]
  | .list ds, h => eqvA_refl (ds := ds) h
  | .tuple ds, h => eqvA_refl (ds := ds) h
  | .dict _, h => by cases h
theorem eqvA_refl : ∀ {ds : List D}, PyData.canLayAll0 ds = true → PyData.eqvAll ds ds = true
  | [], _ => rfl
  | d :: ds, h => by
    simp only [PyData.canLayAll0, Bool.and_eq_true] at h
    show (PyData.eqv d d && PyData.eqvAll ds ds) = true
    rw [eqv_refl h.1, eqvA_refl h.2]; rfl
end
end L3
/-! Expressions that draw from a pool: what comes out is told by a set S. -/
namespace L3
open PySem PySem.Spec PyProof.Rows L2
theorem Wp.own {a p : Addr} {G H : Hp} {o : HO} (b : Same G H) (hp : H p = none) : Wp a G H G (upd H p o) := (Wk.own b hp).wp
theorem Wp.new {a p : Addr} {G H : Hp} {o : HO} (b : Same G H) (hp : H p = none) : Wp a G H (upd G p o) (upd H p o) := (Wk.new b hp).wp
/-- an owned object changes, not the pool -/
theorem Wp.mutO {a p : Addr} {G H G1 H1 : Hp} {o : HO} (x : Wp a G H G1 H1) (h0 : H p = none) (g1 : G1 p = none) : Wp a G H G1 (upd H1 p o) :=
  ⟨x.g, fun q u e => by rw [upd_ne (ne_of_none e g1)]; exact x.b q u e, fun q u n e => by rw [upd_ne (ne_of_none e h0)]; exact x.h q u n e, x.n, fun q => by
    by_cases h : a = p
    · subst h; exact absurd h0 q
    · rw [upd_ne h]; exact x.s q⟩
theorem Wp.freeze {a p : Addr} {G H G1 H1 : Hp} {o : HO} (x : Wp a G H G1 H1) (h0 : H p = none) (g1 : G1 p = none) (hp : H1 p = some o) : Wp a G H (upd G1 p o) H1 := by
  refine ⟨fun q u e => ?_, fun q u e => ?_, x.h, fun q h1 h2 => ?_, x.s⟩
  · have e1 := x.g q u e
    rw [upd_ne (ne_of_none e1 g1)]; exact e1
  · unfold upd at e
    split at e
    · rename_i hq; rw [hq, hp]; exact e
    · exact x.b q u e
  · have hq : q ≠ p := fun z => h1 (by rw [z]; exact h0)
    rw [upd_ne hq]; exact x.n q h1 h2
theorem Pool.at {K : Fg} {G H : Hp} {a : Addr} (p : Pool K G H a) : H a ≠ none := by
  obtain ⟨_, c, cells, i, r, s, h, _⟩ := p
  rw [h]; simp
/-- a pool is not changed by what is written elsewhere -/
theorem Pool.mutO {K : Fg} {G H : Hp} {a p : Addr} {o : HO} (h : Pool K G H a) (q : a ≠ p) : Pool K G (upd H p o) a := by
  obtain ⟨g, c, cells, i, r, s, e, rest⟩ := h
  exact ⟨g, c, cells, i, r, s, by rw [upd_ne q]; exact e, rest⟩
theorem Pool.grow {K : Fg} {G H : Hp} {a p : Addr} {o : HO} (h : Pool K G H a) (q : a ≠ p) (gp : G p = none) : Pool K (upd G p o) H a := by
  obtain ⟨g, c, cells, i, r, s, e, hs, rest⟩ := h
  refine ⟨by rw [upd_ne q]; exact g, c, cells, i, r, s, e, sql_up (fun b u e => ?_) hs, rest⟩
  rw [upd_ne (ne_of_none e gp)]; exact e
def EvP (K : Fg) (a : Addr) (te : TE) (σ : L2.St) (G H : Hp) (S : D → Prop) : Prop := ∀ G1 H1, Wp a G H G1 H1 → Pool K G1 H1 a → ∀ Q : VK, (∀ d v G2 H2, S d → Wp a G1 H1 G2 H2 → Pool K G2 H2 a → Rp K G2 v d → Q v H2) → te σ H1 Q
def EbP (K : Fg) (a : Addr) (tt : TT) (σ : L2.St) (G H : Hp) (b : Bool) : Prop := ∀ G1 H1, Wp a G H G1 H1 → Pool K G1 H1 a → ∀ Q : Bool → Hp → Prop, (∀ G2 H2, Wp a G1 H1 G2 H2 → Pool K G2 H2 a → Q b H2) → tt σ H1 Q
def EpA (K : Fg) (a : Addr) (ta : TA) (σ : L2.St) (G H : Hp) (S : List D → Prop) : Prop := ∀ G1 H1, Wp a G H G1 H1 → Pool K G1 H1 a → ∀ Q : List V → Hp → Prop, (∀ ds vs G2 H2, S ds → Wp a G1 H1 G2 H2 → Pool K G2 H2 a → RpA K G2 vs ds → Q vs H2) → ta σ H1 Q
section
variable {K : Fg} {a : Addr} {σ : L2.St} {G H G' H' : Hp} {ta tb te tx tl : TE} {tas : TA} {tt : TT} {d e : D} {S S1 S' : D → Prop}
theorem EvP.up (w : Wp a G H G' H') (h : EvP K a te σ G H S) : EvP K a te σ G' H' S := fun G1 H1 x p Q q => h G1 H1 (w.trans x) p Q q
theorem EvP.to (h : EvP K a te σ G H S) (q : ∀ d, S d → S' d) : EvP K a te σ G H S' := fun G1 H1 x p Q k => h G1 H1 x p Q fun d v G2 H2 s => k d v G2 H2 (q d s)
theorem EpA.to {T T' : List D → Prop} (h : EpA K a tas σ G H T) (q : ∀ d, T d → T' d) : EpA K a tas σ G H T' := fun G1 H1 x p Q k => h G1 H1 x p Q fun d v G2 H2 s => k d v G2 H2 (q d s)
theorem ep_ed (h : ∀ G1 H1, Wp a G H G1 H1 → EvD K te σ G1 H1 d) : EvP K a te σ G H (· = d) := fun G1 H1 w p Q q =>
  h G1 H1 w G1 H1 (Wk.refl w.b) Q fun v G2 H2 w2 hv => q d v G2 H2 rfl w2.wp (p.up w2) hv
theorem ep_int {n : Int} : EvP K a (tC (.int n)) σ G H (· = .int n) := ep_ed fun _ _ _ => ed_int
theorem ep_vI {i : Nat} {n : Int} (h : σ[i]? = some (some (.int n))) : EvP K a (tVar i) σ G H (· = .int n) := ep_ed fun _ _ _ => ed_vI h
theorem ep_var {i : Nat} {v : V} (h : σ[i]? = some (some v)) (hd : Rp K G v d) : EvP K a (tVar i) σ G H (· = d) := ep_ed fun _ _ w => ed_var h (dp_up w.g hd)
theorem ed_cv {v : V} (hd : Rp K G v d) : EvD K (tC v) σ G H d := fun G1 H1 w Q q => q v G1 H1 (Wk.refl w.b) (dp_up w.g hd)
theorem ep_op {R : V → V → Hp → VK → Prop} {S2 : D → D → Prop} (ha : EvP K a ta σ G H S1) (hb : ∀ d, S1 d → EvP K a tb σ G H (S2 d))
    (hr : ∀ x y d e G1 H1, Wp a G H G1 H1 → S1 d → S2 d e → Rp K G1 x d → Rp K G1 y e → ∃ f, S f ∧ EvD K (tOp R (tC x) (tC y)) σ G1 H1 f) : EvP K a (tOp R ta tb) σ G H S := fun G1 H1 w p Q q =>
  ha G1 H1 w p _ fun d x G2 H2 s1 w2 p2 hx => hb d s1 G2 H2 (w.trans w2) p2 _ fun e y G3 H3 s2 w3 p3 hy => by
    obtain ⟨f, sf, hf⟩ := hr x y d e G3 H3 ((w.trans w2).trans w3) s1 s2 (dp_up w3.g hx) hy
    exact hf G3 H3 (Wk.refl w3.b) Q fun v G4 H4 w4 hv => q f v G4 H4 sf ((w2.trans w3).trans w4.wp) (p3.up w4) hv
/-- two whole numbers -/
theorem ep_opI {R : V → V → Hp → VK → Prop} {A B : Int → Prop} {S : D → Prop} (ha : EvP K a ta σ G H fun d => ∃ i, d = .int i ∧ A i) (hb : EvP K a tb σ G H fun d => ∃ i, d = .int i ∧ B i)
    (hr : ∀ i j G1 H1, A i → B j → Wp a G H G1 H1 → ∃ f, S f ∧ EvD K (tOp R (tC (.int i)) (tC (.int j))) σ G1 H1 f) : EvP K a (tOp R ta tb) σ G H S :=
  ep_op (S2 := fun _ d => ∃ i, d = .int i ∧ B i) ha (fun _ _ => hb) fun x y d e G1 H1 w s1 s2 hx hy => by
    obtain ⟨i, rfl, hi⟩ := s1
    obtain ⟨j, rfl, hj⟩ := s2
    cases hx; cases hy
    exact hr i j G1 H1 hi hj w
theorem ep_nil : EpA K a tNil σ G H (· = []) := fun G1 H1 w p Q q => q [] [] G1 H1 rfl (Wp.refl w.b) p .nil
theorem ep_cons {S2 : D → List D → Prop} {T : List D → Prop} (h1 : EvP K a te σ G H S1) (h2 : ∀ d, S1 d → EpA K a tas σ G H (S2 d)) (ht : ∀ d ds, S1 d → S2 d ds → T (d :: ds)) : EpA K a (tCons te tas) σ G H T := fun G1 H1 w p Q q =>
  h1 G1 H1 w p _ fun d x G2 H2 s1 w2 p2 hx => h2 d s1 G2 H2 (w.trans w2) p2 _ fun ds xs G3 H3 s2 w3 p3 hxs => q (d :: ds) (x :: xs) G3 H3 (ht d ds s1 s2) (w2.trans w3) p3 (.cons (dp_up w3.g hx) hxs)
theorem ep_a1 (h1 : EvP K a te σ G H S1) : EpA K a (tCons te tNil) σ G H (fun ds => ∃ d, ds = [d] ∧ S1 d) := ep_cons (S2 := fun _ ds => ds = []) h1 (fun _ _ => ep_nil) fun d ds s1 e => ⟨d, by rw [e], s1⟩
theorem ep_a2 {S2 : D → D → Prop} (h1 : EvP K a ta σ G H S1) (h2 : ∀ d, S1 d → EvP K a tb σ G H (S2 d)) : EpA K a (tCons ta (tCons tb tNil)) σ G H (fun ds => ∃ d e, ds = [d, e] ∧ S1 d ∧ S2 d e) :=
  ep_cons h1 (fun d s => ep_a1 (h2 d s)) fun d ds s1 ⟨e, h, s2⟩ => ⟨d, e, by rw [h], s1, s2⟩
theorem ep_a3 {S2 : D → D → Prop} {S3 : D → D → D → Prop} (h1 : EvP K a ta σ G H S1) (h2 : ∀ d, S1 d → EvP K a tb σ G H (S2 d)) (h3 : ∀ d e, S1 d → S2 d e → EvP K a tx σ G H (S3 d e)) :
    EpA K a (tCons ta (tCons tb (tCons tx tNil))) σ G H (fun ds => ∃ d e f, ds = [d, e, f] ∧ S1 d ∧ S2 d e ∧ S3 d e f) :=
  ep_cons h1 (fun d s => ep_a2 (h2 d s) (fun e s2 => h3 d e s s2)) fun d ds s1 ⟨e, f, h, s2, s3⟩ => ⟨d, e, f, by rw [h], s1, s2, s3⟩
/-- a def of the program is called -/
theorem ep_call {n : Nat} {R : List D → Except Addr D → Prop} {E : XK} {T : List D → Prop} (ha : EpA K a tas σ G H T) (hr : ∀ ds, T ds → ds.length = n ∧ ∃ d, R ds (.ok d) ∧ S d) : EvP K a (tCall (spR K n R) [] E tas) σ G H S := fun G1 H1 w p Q q =>
  ha G1 H1 w p _ fun ds vs G2 H2 s w2 p2 hv => by
    obtain ⟨hn, d, hd, sd⟩ := hr ds s
    show spR K n R (vs ++ []) H2 Q E
    rw [List.append_nil]
    exact ⟨G2, ds, .ok d, w2.b, hv, hn, hd, fun v G3 H3 w3 hv => q d v G3 H3 sd (w2.trans w3.wp) (p2.up w3) hv⟩
theorem ep_take {i : Nat} {many : Int} {E : XK} (hs : σ[i]? = some (some (.ref a))) (hb : EvP K a tb σ G H (· = .int many)) (h0 : 0 < many) (h1 : many < 1073741824) :
    EvP K a (tCall (spTake K) [] E (tCons (tVar i) (tCons tb tNil))) σ G H (fun d => ∃ z : Int, d = .int z ∧ 0 ≤ z ∧ z < many) := fun G1 H1 w p Q q =>
  ⟨_, hs, hb G1 H1 w p _ fun d x G2 H2 s w2 p2 hx => by
    subst s
    cases hx
    exact ⟨G2, a, many, rfl, w2.b, p2, h0, h1, fun z G3 H3 z0 z1 w3 p3 => q _ _ G3 H3 ⟨z, rfl, z0, z1⟩ (w2.trans w3) p3 (.int z)⟩⟩
theorem ep_below {i : Nat} {many : Int} {E : XK} (hs : σ[i]? = some (some (.ref a))) (hb : EvP K a tb σ G H (· = .int many)) (h0 : 0 < many) :
    EvP K a (tCall (spBelow K) [] E (tCons (tVar i) (tCons tb tNil))) σ G H (fun d => ∃ z : Int, d = .int z ∧ 0 ≤ z ∧ z < many) := fun G1 H1 w p Q q =>
  ⟨_, hs, hb G1 H1 w p _ fun d x G2 H2 s w2 p2 hx => by
    subst s
    cases hx
    exact ⟨G2, a, many, rfl, w2.b, p2, h0, fun z G3 H3 z0 z1 w3 p3 => q _ _ G3 H3 ⟨z, rfl, z0, z1⟩ (w2.trans w3) p3 (.int z)⟩⟩
theorem ep_pick {i : Nat} {ds : List D} {E : XK} (hs : σ[i]? = some (some (.ref a))) (hb : EvP K a tb σ G H (· = d)) (hd : d = .list ds ∨ d = .tuple ds) (hn : ds ≠ []) (hl : ds.length < 1000000) :
    EvP K a (tCall (spPick K) [] E (tCons (tVar i) (tCons tb tNil))) σ G H (fun d => d ∈ ds) := fun G1 H1 w p Q q =>
  ⟨_, hs, hb G1 H1 w p _ fun d' x G2 H2 s w2 p2 hx => by
    subst s
    exact ⟨G2, a, x, d', ds, rfl, w2.b, p2, hx, hd, hn, hl, fun v e G3 H3 he w3 p3 hv => q _ _ G3 H3 he (w2.trans w3) p3 hv⟩⟩
theorem ep_given {i : Nat} {T : List D → Prop} {E : XK} (hs : σ[i]? = some (some (.ref a))) (hb : EvP K a tb σ G H (fun d => ∃ ds, (d = .list ds ∨ d = .tuple ds) ∧ T ds)) :
    EvP K a (tCall (spGiven K) [] E (tCons (tVar i) (tCons tb tNil))) σ G H (fun d => ∃ ds, (d = .list ds ∨ d = .tuple ds) ∧ T ds) := fun G1 H1 w p Q q =>
  ⟨_, hs, hb G1 H1 w p _ fun d' x G2 H2 s w2 p2 hx => by
    obtain ⟨ds, hd, ht⟩ := s
    exact ⟨G2, a, x, d', ds, rfl, w2.b, p2, hx, hd, fun v e G3 H3 he w3 p3 hv => q _ _ G3 H3 ⟨ds, he, ht⟩ (w2.trans w3) p3 hv⟩⟩
theorem ep_tup {T : List D → Prop} (h : EpA K a tas σ G H T) (hl : ∀ ds, T ds → ds.length ≤ 1000000) : EvP K a (tTup tas) σ G H (fun d => ∃ ds, d = .tuple ds ∧ T ds) := fun G1 H1 w p Q q =>
  h G1 H1 w p _ fun ds vs G2 H2 s w2 p2 hv => ⟨by rw [dpa_len hv]; exact Nat.le_trans (hl ds s) (by decide), fun l hl => by
    have wn := Wk.new (o := .tup vs) w2.b hl
    exact q _ _ _ _ ⟨ds, rfl, s⟩ (w2.trans wn.wp) (p2.up wn) (.tup (SqT.of upd_same) (dpa_up wn.g hv))⟩
theorem ep_lst {T : List D → Prop} (h : EpA K a tas σ G H T) (hl : ∀ ds, T ds → ds.length ≤ 1000000) : EvP K a (tLst tas) σ G H (fun d => ∃ ds, d = .list ds ∧ T ds) := fun G1 H1 w p Q q =>
  h G1 H1 w p _ fun ds vs G2 H2 s w2 p2 hv => ⟨by rw [dpa_len hv]; exact Nat.le_trans (hl ds s) (by decide), fun l hl => by
    have wn := Wk.new (o := .lst vs) w2.b hl
    exact q _ _ _ _ ⟨ds, rfl, s⟩ (w2.trans wn.wp) (p2.up wn) (.lst (SqL.of upd_same) (dpa_up wn.g hv))⟩
/-- a built-in of one -/
theorem ep_b1 {r : List V → Hp → VK → Prop} (ha : EvP K a ta σ G H S1) (hr : ∀ x d G1 H1, Wp a G H G1 H1 → S1 d → Rp K G1 x d → ∃ f, S f ∧ EvD K (tCB r (tCons (tC x) tNil)) σ G1 H1 f) : EvP K a (tCB r (tCons ta tNil)) σ G H S := fun G1 H1 w p Q q =>
  ha G1 H1 w p _ fun d x G2 H2 s1 w2 p2 hx => by
    obtain ⟨f, sf, hf⟩ := hr x d G2 H2 (w.trans w2) s1 hx
    exact hf G2 H2 (Wk.refl w2.b) Q fun v G4 H4 w4 hv => q f v G4 H4 sf (w2.trans w4.wp) (p2.up w4) hv
theorem ep_tupL {T : List D → Prop} (ha : EvP K a ta σ G H fun d => ∃ ds, d = .list ds ∧ T ds) : EvP K a (tCB (rTupOf K) (tCons ta tNil)) σ G H fun d => ∃ ds, d = .tuple ds ∧ T ds :=
  ep_b1 ha fun x d G1 H1 w s hx => by
    obtain ⟨ds, rfl, t⟩ := s
    exact ⟨_, ⟨ds, rfl, t⟩, ed_tupL (ed_cv hx)⟩
theorem ep_if {b : Bool} {t : TT} (h : EbP K a t σ G H b) (h1 : b = true → EvP K a ta σ G H S) (h2 : b = false → EvP K a tb σ G H S) : EvP K a (tIf t ta tb) σ G H S := fun G1 H1 w p Q q =>
  h G1 H1 w p _ fun G2 H2 w2 p2 => by
    cases b with
    | true => exact h1 rfl G2 H2 (w.trans w2) p2 Q fun d v G3 H3 s w3 p3 => q d v G3 H3 s (w2.trans w3) p3
    | false => exact h2 rfl G2 H2 (w.trans w2) p2 Q fun d v G3 H3 s w3 p3 => q d v G3 H3 s (w2.trans w3) p3
/-! tests -/
theorem bp_eb {b : Bool} (h : ∀ G1 H1, Wp a G H G1 H1 → EvB K tt σ G1 H1 b) : EbP K a tt σ G H b := fun G1 H1 w p Q q =>
  h G1 H1 w G1 H1 (Wk.refl w.b) Q fun G2 H2 w2 => q G2 H2 w2.wp (p.up w2)
theorem bp_val {b : Bool} (h : EvP K a te σ G H (· = .bool b)) : EbP K a (tB te) σ G H b := fun G1 H1 w p Q q => h G1 H1 w p _ fun d v G2 H2 s w2 p2 hv => by
  subst s; cases hv
  exact ⟨b, rfl, q G2 H2 w2 p2⟩
theorem bp_test {b : Bool} (h : EvP K a te σ G H (· = .bool b)) : EbP K a (tTest te) σ G H b := fun G1 H1 w p Q q => h G1 H1 w p _ fun d v G2 H2 s w2 p2 hv => by
  subst s; cases hv
  exact ⟨b, rfl, q G2 H2 w2 p2⟩
theorem bp_truB {b : Bool} (h : EvP K a te σ G H (· = .bool b)) : EbP K a (fun σ H Q => te σ H fun x H' => ∃ k, TruV K x H' k ∧ Q k H') σ G H b := fun G1 H1 w p Q q => h G1 H1 w p _ fun d v G2 H2 s w2 p2 hv => by
  subst s
  exact ⟨_, rp_tru w2.b hv (fun s e => by cases e) (fun ds e => by cases e), q G2 H2 w2 p2⟩
theorem bp_not {t : TT} {b : Bool} (h : EbP K a t σ G H b) : EbP K a (tNot t) σ G H (!b) := fun G1 H1 w p Q q => h G1 H1 w p _ fun G2 H2 w2 p2 => q G2 H2 w2 p2
theorem bp_and {t u : TT} {b c : Bool} (h1 : EbP K a t σ G H b) (h2 : b = true → EbP K a u σ G H c) : EbP K a (tAnd t u) σ G H (b && c) := fun G1 H1 w p Q q => h1 G1 H1 w p _ fun G2 H2 w2 p2 => by
  cases b with
  | true => exact h2 rfl G2 H2 (w.trans w2) p2 Q fun G3 H3 w3 p3 => q G3 H3 (w2.trans w3) p3
  | false => exact q G2 H2 w2 p2
theorem bp_or {t u : TT} {b c : Bool} (h1 : EbP K a t σ G H b) (h2 : b = false → EbP K a u σ G H c) : EbP K a (tOr t u) σ G H (b || c) := fun G1 H1 w p Q q => h1 G1 H1 w p _ fun G2 H2 w2 p2 => by
  cases b with
  | false => exact h2 rfl G2 H2 (w.trans w2) p2 Q fun G3 H3 w3 p3 => q G3 H3 (w2.trans w3) p3
  | true => exact q G2 H2 w2 p2
theorem EbP.to {t : TT} {b c : Bool} (h : EbP K a t σ G H b) (e : b = c) : EbP K a t σ G H c := e ▸ h
/-! comprehensions over range, no test -/
theorem ep_lcR1 {j : Nat} {vs : List Nat} {tas : TA} {P : Int → Prop} {S : D → Prop} (h : EpA K a tas σ G H (fun ds => ∃ hi, ds = [.int hi] ∧ P hi)) (hz : ∀ hi, P hi → -1000000 ≤ hi ∧ hi ≤ 400000) (hw : ∀ v, wipe ((wipe σ vs).set j (some v)) vs = wipe σ vs)
    (he : ∀ (hi i : Int), P hi → 0 ≤ i → i < hi → ∀ G1 H1, Wp a G H G1 H1 → EvP K a te ((wipe σ vs).set j (some (.int i))) G1 H1 S) : EvP K a (tLc (iRng1 tas) (gName j) tYes te vs) σ G H (fun d => ∃ ds, d = .list ds ∧ (∃ hi, P hi ∧ ds.length = hi.toNat) ∧ ∀ d ∈ ds, S d) := fun G1 H1 w p Q q =>
  h G1 H1 w p _ fun ds vv G2 H2 s w2 p2 hv => by
    obtain ⟨hi, rfl, hP⟩ := s
    have hz := hz hi hP
    cases hv with
    | cons h1 h2 =>
      cases h1; cases h2
      refine ⟨hi, rfl, by omega, by omega, fun Dl hD => ?_⟩
      have hne : a ≠ Dl := fun e => p2.at (by rw [e]; exact hD)
      refine lc_range (fun i H' => ∃ (G' : Hp) (acc : List V) (out : List D), Wp a G2 H2 G' H' ∧ Pool K G' H' a ∧ G' Dl = none ∧ H' Dl = some (.lst acc) ∧ RpA K G' acc out ∧ out.length = i ∧ ∀ d ∈ out, S d)
        ⟨G2, [], [], Wp.own w2.b hD, p2.mutO hne, none_of_same w2.b hD, upd_same, .nil, rfl, fun _ h => nomatch h⟩ (fun i H' hx P => ?_) (fun H' P => ?_)
      · obtain ⟨G', acc, out, w3, p3, g3, h3, r3, l3, s3⟩ := P
        refine ⟨hw _, ?_⟩
        refine (eb_yes (K := K)) G' H' (Wk.refl w3.b) _ fun G4 H4 w4 => ?_
        show te _ H4 _
        refine he hi (0 + i) hP (by omega) (by omega) G4 H4 (((w.trans w2).trans w3).trans w4.wp) G4 H4 (Wp.refl w4.b) (p3.up w4) _ fun d v G5 H5 sd w5 p5 hv => ?_
        have k4 := w4.keep h3 g3
        have k5 := w5.keep k4.1 (fun e => hne e.symm) k4.2
        refine ⟨acc, k5.1, ?_, G5, acc ++ [v], out ++ [d], Wp.mutO ((w3.trans w4.wp).trans w5) hD k5.2, p5.mutO hne, k5.2, upd_same, dpa_snoc (dpa_up (w4.g.trans w5.g) r3) hv, by rw [List.length_append, l3]; rfl, fun d' h' => ?_⟩
        · rw [dpa_len r3, l3]; exact Nat.lt_of_lt_of_le (show i < 400000 by omega) (by decide)
        · rcases List.mem_append.mp h' with h' | h'
          · exact s3 d' h'
          · rw [List.mem_singleton.mp h']; exact sd
      · obtain ⟨G', acc, out, w3, p3, g3, h3, r3, l3, s3⟩ := P
        have wf := w3.freeze hD g3 h3
        refine q _ _ _ _ ⟨out, rfl, ⟨hi, hP, l3⟩, s3⟩ (w2.trans wf) (p3.grow hne g3) (.lst (SqL.of upd_same) (dpa_up (fun b o e => ?_) r3))
        rw [upd_ne (ne_of_none e g3)]; exact e
end
section
variable {K : Fg} {a : Addr} {σ : L2.St} {G H G0 H0 : Hp} {ta tb te tx tl : TE} {tas : TA} {tt : TT} {d e : D} {S S1 S' : D → Prop} {E : Ends} {tz tu tw : TS}
variable (K)
theorem sp_ret (b : Same G H) (p : Pool K G H a) (h : EvP K a te σ G H S) (q : ∀ d v G1 H1, S d → Wp a G H G1 H1 → Pool K G1 H1 a → Rp K G1 v d → E.rt v H1) : tRet te E σ H := h G H (Wp.refl b) p _ q
theorem qp_set {i : Nat} (b : Same G H) (p : Pool K G H a) (h : EvP K a te σ G H S) (q : ∀ d v G1 H1, S d → Wp a G H G1 H1 → Pool K G1 H1 a → Rp K G1 v d → tz E (σ.set i (some v)) H1) : tSeq (tAsg te (gName i)) tz E σ H := h G H (Wp.refl b) p _ q
theorem qp_when {c : Bool} (b : Same G H) (p : Pool K G H a) (h : EbP K a tt σ G H c) (h1 : c = true → ∀ G1 H1, Wp a G H G1 H1 → Pool K G1 H1 a → tu { E with nx := tz E } σ H1) (h2 : c = false → ∀ G1 H1, Wp a G H G1 H1 → Pool K G1 H1 a → tz E σ H1) : tSeq (tIfS tt tu tNext) tz E σ H :=
  h G H (Wp.refl b) p _ fun G1 H1 w p1 => by
    cases c with
    | true => exact h1 rfl G1 H1 w p1
    | false => exact h2 rfl G1 H1 w p1
theorem qp_if {c : Bool} (b : Same G H) (p : Pool K G H a) (h : EbP K a tt σ G H c) (h1 : c = true → ∀ G1 H1, Wp a G H G1 H1 → Pool K G1 H1 a → tu { E with nx := tz E } σ H1) (h2 : c = false → ∀ G1 H1, Wp a G H G1 H1 → Pool K G1 H1 a → tw { E with nx := tz E } σ H1) : tSeq (tIfS tt tu tw) tz E σ H :=
  h G H (Wp.refl b) p _ fun G1 H1 w p1 => by
    cases c with
    | true => exact h1 rfl G1 H1 w p1
    | false => exact h2 rfl G1 H1 w p1
theorem sp_when {c : Bool} (b : Same G H) (p : Pool K G H a) (h : EbP K a tt σ G H c) (h1 : c = true → ∀ G1 H1, Wp a G H G1 H1 → Pool K G1 H1 a → tu E σ H1) (h2 : c = false → ∀ G1 H1, Wp a G H G1 H1 → Pool K G1 H1 a → E.nx σ H1) : tIfS tt tu tNext E σ H :=
  h G H (Wp.refl b) p _ fun G1 H1 w p1 => by
    cases c with
    | true => exact h1 rfl G1 H1 w p1
    | false => exact h2 rfl G1 H1 w p1
theorem qp_two {i j : Nat} {R : D → D → Prop} (b : Same G H) (p : Pool K G H a) (h : EvP K a te σ G H fun d => ∃ x y, d = .tuple [x, y] ∧ R x y)
    (q : ∀ d e x y G1 H1, R d e → Wp a G H G1 H1 → Pool K G1 H1 a → Rp K G1 x d → Rp K G1 y e → tz E ((σ.set i (some x)).set j (some y)) H1) : tSeq (tAsg te (gTup K 2 (gCons (gName i) (gCons (gName j) gNil)))) tz E σ H :=
  h G H (Wp.refl b) p _ fun d v G1 H1 s w p1 r => by
    obtain ⟨x, y, rfl, hr⟩ := s
    cases r with
    | tup hs hl =>
      cases hl with
      | cons h1 hl =>
        cases hl with
        | cons h2 hl =>
          cases hl
          exact ⟨_, _, rfl, sqt_up w.b hs, rfl, _, _, rfl, _, _, rfl, rfl, q _ _ _ _ G1 H1 hr w p1 h1 h2⟩
/-- behind a turn of a loop that draws -/
def BtP (K : Fg) (a : Addr) (G0 H0 : Hp) (I : L2.St → Hp → Hp → Prop) : L2.St → Hp → Prop := fun σ' H' => ∃ G', Wp a G0 H0 G' H' ∧ Pool K G' H' a ∧ I σ' G' H'
theorem qp_for {n : Int} {g : TG} (Inv : Nat → L2.St → Hp → Hp → Prop) (w0 : Wp a G0 H0 G H) (p : Pool K G H a) (hn : -1000000 ≤ n ∧ n ≤ 1000000) (h0 : Inv 0 σ G H)
    (hs : ∀ (i : Nat) σ' G1 H1, (i : Int) < n → Wp a G0 H0 G1 H1 → Pool K G1 H1 a → Inv i σ' G1 H1 → g (.int i) σ' H1 fun σ2 H2 => tu { E with nx := BtP K a G0 H0 (Inv (i + 1)), ct := BtP K a G0 H0 (Inv (i + 1)), bk := tz E } σ2 H2)
    (hd : ∀ σ' G1 H1, Wp a G0 H0 G1 H1 → Pool K G1 H1 a → Inv n.toNat σ' G1 H1 → tz E σ' H1) : tSeq (tFor (iRng1 (tCons (tC (.int n)) tNil)) g tu) tz E σ H := by
  refine ⟨n, rfl, by omega, by omega, ?_⟩
  refine for_range (lo := 0) (n := n.toNat) (fun i σ' H' => BtP K a G0 H0 (Inv i) σ' H') ⟨G, w0, p, h0⟩ ?_ ?_
  · rintro i σ' H' hi ⟨G', w1, p1, h1⟩
    rw [Int.zero_add]
    exact hs i σ' G' H' (by omega) w1 p1 h1
  · rintro σ' H' ⟨G', w1, p1, h1⟩
    exact hd σ' G' H' w1 p1 h1
theorem q_join {t : TS} (I : L2.St → Hp → Prop) (hd : ∀ σ' H', I σ' H' → tz E σ' H') (h : ∀ X : L2.St → Hp → Prop, (∀ σ' H', I σ' H' → X σ' H') → t { E with nx := X } σ H) : tSeq t tz E σ H := h (tz E) hd
end
end L3
/-! Dicts: what is a tree stands frozen; an owned dict of whole numbers by whole numbers. -/
namespace L3
open PySem PySem.Spec PyProof.Rows L2
/-- e's value, a thing of its own, is frozen from here on -/
def tFrz (t : TE) : TE := fun σ H Q => t σ H fun v H1 => ∃ d u, v = .ref d ∧ H1 d = some u ∧ Mut (some u) ∧ ∀ od, Q v (upd H1 d (.frz od u))
theorem pe_frz {X : Cx} {e : Expr} {t : TE} (h : PE X e t) : PE X e (tFrz t) := ⟨fun pins s σ H Q I hw => thn (h.run pins s σ H _ I hw) fun v s1 ⟨x, H1, I1, r, d, u, ex, hd, mu, q⟩ => by
  obtain ⟨od, I2⟩ := I1.lock hd mu
  exact ⟨x, _, I2, r, q od⟩⟩
def rDictP (K : Fg) : List V → Hp → VK → Prop := fun xs H Q => ∃ (a : Addr) (ps : List Addr) (kvs : List (Key × V)), xs = [.ref a] ∧ SqL K H a (ps.map V.ref) ∧ Paired (fun p kv => SqT K H p [kV kv.1, kv.2]) ps kvs ∧
    ∀ p, H p = none → Q (.ref p) (upd H p (.dK (mergeK [] kvs)))
theorem cr_dictP {X : Cx} (hc : X.calm = true) : CallR X (.type "dict") (rDictP X.K) := call_dictP hc
/-! ### dicts of whole numbers by whole numbers -/
abbrev PI := List (Int × Int)
def pV (p : PI) : List (Key × V) := p.map fun c => (Sum.inl c.1, V.int c.2)
def pD (p : PI) : D := .dict (p.map fun c => (PyData.int c.1, PyData.int c.2))
def kD2 (p : PI) : List D := p.map fun c => .int c.1
def valI (p : PI) (k : Int) : Option Int := (p.find? fun c => decide (c.1 = k)).map (·.2)
def co (p : PI) (k : Int) : Int := (valI p k).getD 0
def putI (p : PI) (k c : Int) : PI := if (p.any fun z => decide (z.1 = k)) = true then p.map (fun z => if z.1 = k then (z.1, c) else z) else p ++ [(k, c)]
def keysI (p : PI) : List Int := p.map Prod.fst
theorem valI_cons (z : Int × Int) (p : PI) (k : Int) : valI (z :: p) k = if z.1 = k then some z.2 else valI p k := by
  unfold valI
  rw [List.find?_cons]
  by_cases h : z.1 = k <;> simp [h]
theorem valV_pV (p : PI) (k : Int) : valV (pV p) (Sum.inl k) = (valI p k).map V.int := by
  induction p with
  | nil => rfl
  | cons z p ih =>
    rw [valI_cons]
    show valV ((Sum.inl z.1, V.int z.2) :: pV p) _ = _
    by_cases h : z.1 = k
    · rw [if_pos h, valV_pos (p := (Sum.inl z.1, V.int z.2)) (by show (Sum.inl z.1 : Key) = _; rw [h])]; rfl
    · rw [if_neg h, valV_neg (p := (Sum.inl z.1, V.int z.2)) (fun e => h (Sum.inl.inj e)), ih]
theorem any_pV (p : PI) (k : Int) : ((pV p).any fun kv => decide (kv.1 = Sum.inl k)) = (p.any fun z => decide (z.1 = k)) := by
  unfold pV; rw [List.any_map]; congr 1; funext z
  show decide ((Sum.inl z.1 : Key) = Sum.inl k) = _
  by_cases h : z.1 = k <;> simp [h]
theorem putK_pV (p : PI) (k c : Int) : putK (pV p) (Sum.inl k) (V.int c) = pV (putI p k c) := by
  unfold putK putI
  rw [any_pV]
  split
  · unfold pV; rw [List.map_map, List.map_map]
    apply List.map_congr_left
    intro z _
    show (if (Sum.inl z.1 : Key) = Sum.inl k then _ else _) = _
    by_cases h : z.1 = k
    · rw [if_pos (by rw [h])]; simp [h]
    · rw [if_neg (fun e => h (Sum.inl.inj e))]; simp [h]
  · unfold pV; rw [List.map_append]; rfl
theorem any_valI (p : PI) (k : Int) : (p.any fun z => decide (z.1 = k)) = (valI p k).isSome := by
  induction p with
  | nil => rfl
  | cons z p ih =>
    rw [List.any_cons, valI_cons, ih]
    by_cases h : z.1 = k <;> simp [h]
theorem valI_put (p : PI) (k c j : Int) : valI (putI p k c) j = if j = k then some c else valI p j := by
  have h := valV_put (pV p) (Sum.inl k) (Sum.inl j) (V.int c)
  rw [putK_pV, valV_pV, valV_pV] at h
  by_cases e : j = k
  · rw [if_pos e]; rw [if_pos (by rw [e])] at h
    cases h2 : valI (putI p k c) j with
    | none => rw [h2] at h; cases h
    | some x => rw [h2] at h; cases h; rfl
  · rw [if_neg e]; rw [if_neg (fun z => e (Sum.inl.inj z))] at h
    cases h2 : valI (putI p k c) j with
    | none => rw [h2] at h; cases h3 : valI p j with
      | none => rfl
      | some y => rw [h3] at h; cases h
    | some x => rw [h2] at h; cases h3 : valI p j with
      | none => rw [h3] at h; cases h
      | some y => rw [h3] at h; cases h; rfl
theorem co_put (p : PI) (k c j : Int) : co (putI p k c) j = if j = k then c else co p j := by
  unfold co; rw [valI_put]; split <;> rfl
theorem putI_len (p : PI) (k c : Int) : (putI p k c).length ≤ p.length + 1 := by
  unfold putI; split
  · rw [List.length_map]; omega
  · rw [List.length_append]; simp
theorem putI_keys (p : PI) (k c : Int) : keysI (putI p k c) = if k ∈ keysI p then keysI p else keysI p ++ [k] := by
  have e : (p.any fun z => decide (z.1 = k)) = true ↔ k ∈ keysI p := by
    rw [List.any_eq_true]
    unfold keysI
    rw [List.mem_map]
    constructor
    · rintro ⟨z, hz, h⟩; exact ⟨z, hz, of_decide_eq_true h⟩
    · rintro ⟨z, hz, h⟩; exact ⟨z, hz, decide_eq_true h⟩
  unfold putI
  by_cases h : (p.any fun z => decide (z.1 = k)) = true
  · rw [if_pos h, if_pos (e.mp h)]
    unfold keysI
    rw [List.map_map]
    apply List.map_congr_left
    intro z _
    show (if z.1 = k then (z.1, c) else z).1 = z.1
    split <;> rfl
  · rw [if_neg h, if_neg (fun z => h (e.mpr z))]
    unfold keysI; rw [List.map_append]; rfl
theorem putI_nd {p : PI} {k c : Int} (h : (keysI p).Nodup) : (keysI (putI p k c)).Nodup := by
  rw [putI_keys]
  split
  · exact h
  · rename_i hk
    rw [List.nodup_append]
    exact ⟨h, by simp, fun a ha b hb e => by rw [List.mem_singleton.mp hb] at e; exact hk (e ▸ ha)⟩
theorem valI_mem {p : PI} {k c : Int} (nd : (keysI p).Nodup) (h : (k, c) ∈ p) : valI p k = some c := by
  induction p with
  | nil => cases h
  | cons z p ih =>
    have nd' : z.1 ∉ keysI p ∧ (keysI p).Nodup := List.nodup_cons.mp nd
    rw [valI_cons]
    rcases List.mem_cons.mp h with e | h
    · subst e; rw [if_pos rfl]
    · rw [if_neg, ih nd'.2 h]
      intro e
      exact nd'.1 (by rw [e]; exact List.mem_map.mpr ⟨(k, c), h, rfl⟩)
theorem valI_none {p : PI} {k : Int} (h : k ∉ keysI p) : valI p k = none := by
  induction p with
  | nil => rfl
  | cons z p ih =>
    have h' : ¬ (k = z.1) ∧ k ∉ keysI p := by
      have : k ∉ z.1 :: keysI p := h
      rw [List.mem_cons] at this
      exact ⟨fun e => this (.inl e), fun e => this (.inr e)⟩
    rw [valI_cons, if_neg (fun e => h'.1 e.symm), ih h'.2]
theorem valI_at {p : PI} {k c : Int} (h : valI p k = some c) : (k, c) ∈ p := by
  unfold valI at h
  cases e : p.find? fun c => decide (c.1 = k) with
  | none => rw [e] at h; cases h
  | some z =>
    rw [e] at h; cases h
    have h1 := List.find?_some e
    have h2 := List.mem_of_find?_eq_some e
    have : z.1 = k := of_decide_eq_true h1
    rw [← this]; exact h2
theorem mergeK_pV : ∀ (p q : PI), (keysI p ++ keysI q).Nodup → mergeK (pV p) (pV q) = pV (p ++ q)
  | p, [], _ => by rw [List.append_nil]; rfl
  | p, z :: q, h => by
    show mergeK (putK (pV p) (Sum.inl z.1) (V.int z.2)) (pV q) = _
    have hz : z.1 ∉ keysI p := fun e => by
      have := (List.nodup_append.mp h).2.2 z.1 e z.1 (List.mem_cons_self ..)
      exact this rfl
    rw [putK_pV]
    have e : putI p z.1 z.2 = p ++ [z] := by
      unfold putI
      rw [any_valI, valI_none hz]; rfl
    rw [e, mergeK_pV (p ++ [z]) q]
    · rw [List.append_assoc]; rfl
    · unfold keysI at h ⊢
      rw [List.map_append, List.append_assoc]; exact h
section
variable {K : Fg} {σ : L2.St} {G H G0 H0 : Hp} {ta tb te tx tl : TE} {tas : TA} {tt : TT} {d e : D} {E : Ends} {tz tu : TS} {g : TG}
theorem rpm_pI {kvs : List (Key × V)} : ∀ {p : PI}, RpM K H kvs (p.map fun c => (PyData.int c.1, PyData.int c.2)) → kvs = pV p := by
  intro p
  induction p generalizing kvs with
  | nil => intro h; cases h; rfl
  | cons z p ih =>
    intro h
    rw [List.map_cons] at h
    generalize hd : (PyData.int z.1, PyData.int z.2) = zz at h
    cases h with
    | @cons k v kvs' d' ds' h1 h2 =>
      have e1 : kD k = PyData.int z.1 := (congrArg Prod.fst hd).symm
      have e2 : d' = PyData.int z.2 := (congrArg Prod.snd hd).symm
      subst e2
      cases h1
      rw [ih h2]
      cases k with
      | inl i => cases e1; rfl
      | inr x => cases e1
theorem rpm_of : ∀ (p : PI), RpM K H (pV p) (p.map fun c => (PyData.int c.1, PyData.int c.2))
  | [] => .nil
  | z :: p => .cons (k := Sum.inl z.1) (.int z.2) (rpm_of p)
theorem rp_pD {v : V} {p : PI} (h : Rp K H v (pD p)) : ∃ a o, v = .ref a ∧ H a = some (.frz o (.dK (pV p))) := by
  unfold pD at h
  cases h with
  | dct hs hm => rw [rpm_pI hm] at hs; exact ⟨_, _, rfl, hs⟩
theorem rp_mkD {a : Addr} {o : Obj} {p : PI} (h : H a = some (.frz o (.dK (pV p)))) : Rp K H (.ref a) (pD p) := .dct h (rpm_of p)
/-- the owned thing at p is frozen, and is a tree from here on -/
theorem Wk.frz {p : Addr} {u : HO} {od : Obj} (w : Wk G0 H0 G H) (h0 : H0 p = none) (gp : G p = none) : Wk G0 H0 (upd G p (.frz od u)) (upd H p (.frz od u)) := by
  have w1 := Wk.mut (o := .frz od u) w h0 gp
  exact w1.freeze h0 gp upd_same
/-- {} -/
theorem ed_dnew : EvD K (tFrz tDNewK) σ G H (.dict []) := fun G1 H1 w Q q p hp => ⟨p, _, rfl, upd_same, True.intro, fun od => by
  have w2 := Wk.frz (od := od) (u := .dK []) (Wk.own (o := .dK []) w.b hp) hp (none_of_same w.b hp)
  exact q _ _ _ w2 (.dct upd_same .nil)⟩
/-- {k: c} -/
theorem ed_disp1 {tk tv : TE} {k c : Int} (hk : EvD K tk σ G H (.int k)) (hv : EvD K tv σ G H (.int c)) : EvD K (tFrz (tDisp [(tk, tv)])) σ G H (pD [(k, c)]) := fun G1 H1 w Q q p hp => by
  have w1 := Wk.own (o := .dK []) w.b hp
  refine hk _ _ (w.trans w1) _ fun x G2 H2 w2 hx => hv _ _ ((w.trans w1).trans w2) _ fun y G3 H3 w3 hy => ?_
  cases hx; cases hy
  have k3 := (w2.trans w3).keep (o := .dK []) upd_same (none_of_same w.b hp)
  refine ⟨k3.1, [(Sum.inl k, V.int c)], rfl, Nat.le_of_ble_eq_true rfl, p, _, rfl, upd_same, True.intro, fun od => ?_⟩
  have w4 := Wk.frz (od := od) (u := .dK (pV [(k, c)])) (Wk.mut (o := .dK (pV [(k, c)])) (w1.trans (w2.trans w3)) hp k3.2) hp k3.2
  exact q _ _ _ w4 (rp_mkD (o := od) upd_same)
/-- d[k], d a tree -/
theorem ed_pget {p : PI} {k c : Int} (ha : EvD K ta σ G H (pD p)) (hb : EvD K tb σ G H (.int k)) (hv : valI p k = some c) : EvD K (tDGet ta tb) σ G H (.int c) := fun G1 H1 w Q q =>
  ha G1 H1 w _ fun x G2 H2 w2 hx => hb G2 H2 (w.trans w2) _ fun y G3 H3 w3 hy => by
    cases hy
    obtain ⟨a, o, rfl, h⟩ := rp_pD hx
    exact ⟨a, .int c, rfl, .inl ⟨pV p, Sum.inl k, .inr ⟨o, w3.b _ _ (w3.g _ _ h)⟩, rfl, by rw [valV_pV, hv]; rfl⟩, q _ _ _ (w2.trans w3) (.int c)⟩
/-- d.get(k, z), d a tree -/
theorem ed_pget2 {p : PI} {k z : Int} (ha : EvD K ta σ G H (pD p)) (hb : EvD K tb σ G H (.int k)) (hz : EvD K tx σ G H (.int z)) : EvD K (tDGet2 ta tb tx) σ G H (.int ((valI p k).getD z)) := fun G1 H1 w Q q =>
  ha G1 H1 w _ fun x G2 H2 w2 hx => by
    obtain ⟨a, o, rfl, h⟩ := rp_pD hx
    refine ⟨a, rfl, .inl ⟨pV p, .inr ⟨o, w2.b _ _ h⟩⟩, hb G2 H2 (w.trans w2) _ fun y G3 H3 w3 hy => hz G3 H3 ((w.trans w2).trans w3) _ fun u G4 H4 w4 hu => ?_⟩
    cases hy; cases hu
    refine ⟨(valI p k).map V.int, .inl ⟨pV p, Sum.inl k, .inr ⟨o, w4.b _ _ (w4.g _ _ (w3.g _ _ h))⟩, rfl, by rw [valV_pV]⟩, ?_⟩
    cases e : valI p k with
    | none => rw [e] at q; exact q _ _ _ ((w2.trans w3).trans w4) (.int _)
    | some c => rw [e] at q; exact q _ _ _ ((w2.trans w3).trans w4) (.int _)
/-- .. d an owned dict, locked or not -/
theorem rd_up {p : Addr} {u : HO} {G1 H1 : Hp} (w : Wk G H G1 H1) (h : Rd H p u) : Rd H1 p u := by
  rcases h with h | ⟨o, h⟩
  · exact .inl (w.h _ _ h)
  · exact .inr ⟨o, w.h _ _ h⟩
theorem ed_pgetO {i : Nat} {a : Addr} {p : PI} {k c : Int} (hs : σ[i]? = some (some (.ref a))) (hp : Rd H a (.dK (pV p))) (hb : EvD K tb σ G H (.int k)) (hv : valI p k = some c) : EvD K (tDGet (tVar i) tb) σ G H (.int c) := fun G1 H1 w Q q =>
  ⟨_, hs, hb G1 H1 w _ fun y G3 H3 w3 hy => by
    cases hy
    exact ⟨a, .int c, rfl, .inl ⟨pV p, Sum.inl k, rd_up (w.trans w3) hp, rfl, by rw [valV_pV, hv]; rfl⟩, q _ _ _ w3 (.int c)⟩⟩
theorem ed_pget2O {i : Nat} {a : Addr} {p : PI} {k z : Int} (hs : σ[i]? = some (some (.ref a))) (hp : Rd H a (.dK (pV p))) (hb : EvD K tb σ G H (.int k)) (hz : EvD K tx σ G H (.int z)) : EvD K (tDGet2 (tVar i) tb tx) σ G H (.int ((valI p k).getD z)) := fun G1 H1 w Q q =>
  ⟨_, hs, a, rfl, .inl ⟨pV p, rd_up w hp⟩, hb G1 H1 w _ fun y G3 H3 w3 hy => hz G3 H3 (w.trans w3) _ fun u G4 H4 w4 hu => by
    cases hy; cases hu
    refine ⟨(valI p k).map V.int, .inl ⟨pV p, Sum.inl k, rd_up ((w.trans w3).trans w4) hp, rfl, by rw [valV_pV]⟩, ?_⟩
    cases e : valI p k with
    | none => rw [e] at q; exact q _ _ _ (w3.trans w4) (.int _)
    | some c => rw [e] at q; exact q _ _ _ (w3.trans w4) (.int _)⟩
/-! ### comprehensions over a dict's keys -/
theorem lc_keys {G2 H2 : Hp} {vs : List Nat} {m : PI} {a : Addr} {o : Obj} {Dl : Addr} {Qd : Hp → Prop} (pp : D → Bool) (f : D → D) (b : Same G2 H2) (hD : H2 Dl = none) (hl : m.length ≤ 500000) (ha : H2 a = some (.frz o (.dK (pV m))))
    (hk : ∀ G' H', Wk G2 H2 G' H' → H' a = some (.frz o (.dK (pV m))))
    (he : ∀ c ∈ m, ∀ G1 H1, Wk G2 H2 G1 H1 → Turn1 K g tt te σ vs G1 H1 (.int c.1) (pp (.int c.1)) (f (.int c.1))) (q : ∀ H', lcP K G2 H2 Dl H' (fm pp f (kD2 m)) → Qd H') :
    ∃ W : Nat → Nat → Hp → Prop, (∃ n, W 0 n (upd H2 Dl (.lst []))) ∧ ∀ i n H, W i n H →
      ((Itk a o (pV m)).stop i H ∧ Qd H) ∨ ((Itk a o (pV m)).go i H ∧ ∃ Nx : Hp → Prop, (∀ H', Nx H' → ∃ m', m' < n ∧ W (i + 1) m' H') ∧ ∀ x H', (Itk a o (pV m)).yld i H x H' → g x (wipe σ vs) H' fun σ2 H2 => wipe σ2 vs = wipe σ vs ∧ tt σ2 H2 fun b H3 =>
        if b = true then te σ2 H3 fun y H4 => ∃ acc, H4 Dl = some (.lst acc) ∧ acc.length < sizeLine ∧ Nx (upd H4 Dl (.lst (acc ++ [y]))) else Nx H3) := by
  have hlen : (pV m).length = m.length := by unfold pV; rw [List.length_map]
  refine lc_it (walk_keys (d := a) (o := o) (kvs := pV m)) (fun i H' => lcP K G2 H2 Dl H' (fm pp f ((kD2 m).take i))) ⟨G2, [], Wk.own b hD, none_of_same b hD, upd_same, .nil⟩ (fun i H' _ P => ?_) (fun i x H' H'' hi P y => ?_) (fun H' P => ?_)
  · obtain ⟨G3, _, w3, _⟩ := P
    exact hk G3 H' w3
  · obtain ⟨rfl, k, v, hkv, rfl⟩ := y
    obtain ⟨c, hc, e⟩ : ∃ c, m[i]? = some c ∧ (Sum.inl c.1, V.int c.2) = (k, v) := by
      unfold pV at hkv
      rw [List.getElem?_map] at hkv
      cases e : m[i]? with
      | none => rw [e] at hkv; cases hkv
      | some c => rw [e] at hkv; exact ⟨c, rfl, Option.some.inj hkv⟩
    cases e
    have hk2 : (kD2 m)[i]? = some (.int c.1) := by unfold kD2; rw [List.getElem?_map, hc]; rfl
    refine lc_turn hD P ?_ (fun G3 w3 _ => he c (List.mem_of_getElem? hc) G3 H'' w3) (fun H3 P' => ?_)
    · have := fm_len pp f ((kD2 m).take i); rw [List.length_take] at this
      have : (kD2 m).length = m.length := by unfold kD2; rw [List.length_map]
      omega
    · rw [fm_snoc hk2]; exact P'
  · rw [hlen, List.take_of_length_le (by unfold kD2; rw [List.length_map]; exact Nat.le_refl _)] at P
    exact q H' P
/-- over a dict that is a tree -/
theorem ed_lcK {vs : List Nat} {m : PI} (pp : D → Bool) (f : D → D) (h : EvD K tl σ G H (pD m)) (hz : m.length ≤ 500000)
    (he : ∀ c ∈ m, ∀ G1 H1, Wk G H G1 H1 → Turn1 K g tt te σ vs G1 H1 (.int c.1) (pp (.int c.1)) (f (.int c.1))) : EvD K (tLc (iKeys tl) g tt te vs) σ G H (.list (fm pp f (kD2 m))) := fun G1 H1 w Q q =>
  h G1 H1 w _ fun v G2 H2 w2 hv => by
    obtain ⟨a, o, rfl, ha⟩ := rp_pD hv
    refine ⟨a, o, rfl, .inl ⟨pV m, w2.b _ _ ha, fun Dl hD => ?_⟩⟩
    exact lc_keys (K := K) pp f w2.b hD hz (w2.b _ _ ha) (fun G' H' w' => w'.b _ _ (w'.g _ _ ha)) (fun c hc G3 H3 w3 => he c hc G3 H3 ((w.trans w2).trans w3)) fun H' P => lc_end hD P fun v G3 H3 w3 r => q v G3 H3 (w2.trans w3) r
/-- over an owned dict: it is locked meanwhile -/
theorem ed_lcKO {vs : List Nat} {m : PI} {i : Nat} {a : Addr} (pp : D → Bool) (f : D → D) (hs : σ[i]? = some (some (.ref a))) (ga : G a = none) (ha : H a = some (.dK (pV m))) (hz : m.length ≤ 500000)
    (he : ∀ c ∈ m, ∀ G1 H1, Same G G1 → Same G1 H1 → Rd H1 a (.dK (pV m)) → Turn1 K g tt te σ vs G1 H1 (.int c.1) (pp (.int c.1)) (f (.int c.1))) : EvD K (tLockE (tLc (iKeys (tVar i)) g tt te vs)) σ G H (.list (fm pp f (kD2 m))) := fun G1 H1 w Q q => by
  have k1 := w.keep ha ga
  refine ⟨a, _, k1.1, True.intro, fun od => ?_⟩
  have b1 : Same G1 (upd H1 a (.frz od (.dK (pV m)))) := fun x u e => by rw [upd_ne (ne_of_none e k1.2)]; exact w.b x u e
  refine ⟨_, hs, a, od, rfl, .inl ⟨pV m, upd_same, fun Dl hD => ?_⟩⟩
  refine lc_keys (K := K) pp f b1 hD hz upd_same (fun G' H' w' => (w'.keep upd_same k1.2).1) (fun c hc G3 H3 w3 => he c hc G3 H3 (w.g.trans w3.g) w3.b (.inr ⟨od, (w3.keep upd_same k1.2).1⟩)) fun H' P => ?_
  refine lc_end (Q := fun v H' => H' a = some (.frz od (.dK (pV m))) ∧ Q v (upd H' a (.dK (pV m)))) hD P fun v G3 H3 w3 r => ?_
  have k3 := w3.keep upd_same k1.2
  refine ⟨k3.1, q v G3 _ ⟨w3.g, fun x u e => by rw [upd_ne (ne_of_none e k3.2)]; exact w3.b x u e, fun x u e => ?_, fun x h1 h2 => ?_⟩ r⟩
  · by_cases hx : x = a
    · subst hx; rw [upd_same, ← e, k1.1]
    · rw [upd_ne hx]; exact w3.h x u (by rw [upd_ne hx]; exact e)
  · by_cases hx : x = a
    · subst hx; exact k3.2
    · exact w3.n x (by rw [upd_ne hx]; exact h1) h2
/-! ### dict([..]), sorted([..]) -/
theorem pairs_of : ∀ {m : PI} {xs : List V}, RpA K G xs (m.map fun c => .tuple [.int c.1, .int c.2]) → ∃ ps : List Addr, xs = ps.map V.ref ∧ Paired (fun p kv => SqT K G p [kV kv.1, kv.2]) ps (pV m)
  | [], _, h => by cases h; exact ⟨[], rfl, .nil⟩
  | c :: m, xs, h => by
    rw [List.map_cons] at h
    cases h with
    | cons h1 h2 =>
      obtain ⟨ps, rfl, hp⟩ := pairs_of h2
      cases h1 with
      | @tup a ys _ hs hl =>
        cases hl with
        | cons a1 hl =>
          cases hl with
          | cons a2 hl =>
            cases hl; cases a1; cases a2
            exact ⟨a :: ps, rfl, .cons hs hp⟩
theorem paired_up {G1 : Hp} (e : Same G G1) : ∀ {ps : List Addr} {kvs : List (Key × V)}, Paired (fun p kv => SqT K G p [kV kv.1, kv.2]) ps kvs → Paired (fun p kv => SqT K G1 p [kV kv.1, kv.2]) ps kvs := fun h => by
  induction h with
  | nil => exact .nil
  | cons h1 _ ih => exact .cons (sqt_up e h1) ih
theorem ed_dictP {m : PI} (h : EvD K tl σ G H (.list (m.map fun c => .tuple [.int c.1, .int c.2]))) (nd : (keysI m).Nodup) : EvD K (tFrz (tCB (rDictP K) (tCons tl tNil))) σ G H (pD m) := fun G1 H1 w Q q =>
  h G1 H1 w _ fun x G2 H2 w2 hx => by
    cases hx with
    | @lst a xs _ hs hl =>
      obtain ⟨ps, rfl, hp⟩ := pairs_of hl
      refine ⟨a, ps, pV m, rfl, sql_up w2.b hs, paired_up w2.b hp, fun p hn => ⟨p, _, rfl, upd_same, True.intro, fun od => ?_⟩⟩
      have e := mergeK_pV [] m (by show (([] : List Int) ++ keysI m).Nodup; rw [List.nil_append]; exact nd)
      have e2 : mergeK [] (pV m) = pV m := e
      rw [e2]
      have w3 := Wk.frz (od := od) (u := .dK (pV m)) (Wk.own (o := .dK (pV m)) w2.b hn) hn (none_of_same w2.b hn)
      exact q _ _ _ (w2.trans w3) (rp_mkD (o := od) upd_same)
def insI (n : Int) : List Int → List Int
  | [] => [n]
  | m :: ms => if n ≤ m then n :: m :: ms else m :: insI n ms
def sortI : List Int → List Int
  | [] => []
  | n :: ns => insI n (sortI ns)
theorem insI_perm (n : Int) : ∀ (ns : List Int), (insI n ns).Perm (n :: ns)
  | [] => .refl _
  | m :: ms => by
    unfold insI; split
    · exact .refl _
    · exact ((insI_perm n ms).cons m).trans (.swap n m ms)
theorem sortI_perm : ∀ (ns : List Int), (sortI ns).Perm ns
  | [] => .refl _
  | n :: ns => (insI_perm n _).trans ((sortI_perm ns).cons n)
theorem insI_up (n : Int) : ∀ {ns : List Int}, ns.Pairwise (· ≤ ·) → (insI n ns).Pairwise (· ≤ ·)
  | [], _ => by simp [insI]
  | m :: ms, h => by
    obtain ⟨h1, h2⟩ := List.pairwise_cons.mp h
    unfold insI; split
    · rename_i hn
      refine List.pairwise_cons.mpr ⟨fun a ha => ?_, h⟩
      rcases List.mem_cons.mp ha with rfl | ha
      · exact hn
      · exact Int.le_trans hn (h1 a ha)
    · rename_i hn
      refine List.pairwise_cons.mpr ⟨fun a ha => ?_, insI_up n h2⟩
      rcases List.mem_cons.mp ((insI_perm n ms).mem_iff.mp ha) with rfl | ha
      · omega
      · exact h1 a ha
theorem sortI_up : ∀ (ns : List Int), (sortI ns).Pairwise (· ≤ ·)
  | [] => .nil
  | n :: ns => insI_up n (sortI_up ns)
theorem rise_eq : ∀ {ns ms : List Int}, ns.Perm ms → ns.Pairwise (· ≤ ·) → ms.Pairwise (· ≤ ·) → ns = ms
  | [], ms, p, _, _ => by rw [List.nil_perm.mp p]
  | n :: ns, [], p, _, _ => by have := p.length_eq; simp at this
  | n :: ns, m :: ms, p, h1, h2 => by
    obtain ⟨a1, a2⟩ := List.pairwise_cons.mp h1
    obtain ⟨b1, b2⟩ := List.pairwise_cons.mp h2
    have e : n = m := by
      have x : n ≤ m := by
        rcases List.mem_cons.mp (p.mem_iff.mpr (List.mem_cons_self ..)) with e | e
        · omega
        · exact a1 m e
      have y : m ≤ n := by
        rcases List.mem_cons.mp (p.mem_iff.mp (List.mem_cons_self ..)) with e | e
        · omega
        · exact b1 n e
      omega
    subst e
    rw [rise_eq ((List.perm_cons n).mp p) a2 b2]
theorem ed_sorted {ns : List Int} (h : EvD K tl σ G H (.list (iL ns))) : EvD K (tCB (rSortedI K) (tCons tl tNil)) σ G H (.list (iL (sortI ns))) := fun G1 H1 w Q q =>
  h G1 H1 w _ fun x G2 H2 w2 hx => by
    cases hx with
    | @lst a xs _ hs hl =>
      have e := dpa_iL hl
      refine ⟨a, ns, rfl, e ▸ sql_up w2.b hs, fun ns' p hp hr hn => ?_⟩
      rw [rise_eq (hp.trans (sortI_perm ns).symm) hr (sortI_up ns)]
      exact q _ _ _ (w2.trans (Wk.new w2.b hn)) (.lst (SqL.of upd_same) (iL_dpa _))
/-- isinstance(wrong, (B, C)), wrong the error that is handled -/
theorem ed_isE2 {D B C a : Addr} {i : Nat} {b c : Bool} (hs : σ[i]? = some (some (.ref a))) (hD : ExcC K D) (hk : PySem.W.kitOne K (.ref D) (.ref B) = some b) (hk2 : PySem.W.kitOne K (.ref D) (.ref C) = some c) :
    EvD K (tIsET K (.ref D) none a (tCons (tVar i) (tCons (tTup (tCons (tC (.ref B)) (tCons (tC (.ref C)) tNil))) tNil))) σ G H (.bool (b || c)) := fun G1 H1 w Q q =>
  ⟨D, rfl, rfl, hD, _, hs, by show 2 ≤ sizeLine; decide, fun tp hT => by
    refine ⟨tp, [.ref B, .ref C], [.ref B, .ref C], b || c, rfl, upd_same, .cons (.own B) (.cons (.own C) .nil), kitAny_cons hk (fun e => ?_) fun e => by rw [e]; rfl, q _ _ _ (Wk.new w.b hT) (.bl _)⟩
    subst e
    exact kitAny_cons hk2 (fun e => by subst e; rfl) fun e => by rw [e]; rfl⟩
variable (K)
/-! ### statements -/
theorem q_dnew {i : Nat} (b : Same G H) (q : ∀ p, H p = none → tz E (σ.set i (some (.ref p))) (upd H p (.dK []))) : tSeq (tAsg tDNewK (gName i)) tz E σ H := q
theorem s_forK {m : PI} (Inv : Nat → L2.St → Hp → Hp → Prop) (w0 : Wk G0 H0 G H) (h : EvD K tl σ G H (pD m)) (h0 : ∀ G1 H1, Wk G H G1 H1 → Inv 0 σ G1 H1)
    (hs : ∀ i c σ' G1 H1, m[i]? = some c → Wk G0 H0 G1 H1 → Same G G1 → Inv i σ' G1 H1 → g (.int c.1) σ' H1 fun σ2 H2 => tu { E with nx := Btw G0 H0 G1 (Inv (i + 1)), ct := Btw G0 H0 G1 (Inv (i + 1)), bk := E.nx } σ2 H2)
    (hd : ∀ σ' G1 H1, Wk G0 H0 G1 H1 → Same G G1 → Inv m.length σ' G1 H1 → E.nx σ' H1) : tFor (iKeys tl) g tu E σ H :=
  h G H (Wk.refl w0.b) _ fun v G1 H1 w r => by
    obtain ⟨a, o, rfl, ha⟩ := rp_pD r
    refine ⟨a, o, rfl, .inl ⟨pV m, w.b _ _ ha, fun i n σ' H' => n = m.length - i ∧ i ≤ m.length ∧ Btw G0 H0 G1 (Inv i) σ' H', ⟨m.length, by simp, Nat.zero_le _, G1, w0.trans w, Same.refl _, h0 G1 H1 w⟩, ?_⟩⟩
    have hlen : (pV m).length = m.length := by unfold pV; rw [List.length_map]
    rintro i n σ' H' ⟨rfl, hi, G2, w2, e2, P⟩
    have ha2 : H' a = some (.frz o (.dK (pV m))) := w2.b _ _ (e2 _ _ ha)
    by_cases hlt : i < m.length
    · refine .inr ⟨⟨ha2, by rw [hlen]; exact hlt⟩, Btw G0 H0 G2 (Inv (i + 1)), fun σ3 H3 p => ?_, fun x H3 y => ?_⟩
      · obtain ⟨G3, w3, e3, p⟩ := p
        exact ⟨m.length - (i + 1), by omega, rfl, hlt, G3, w3, e2.trans e3, p⟩
      · obtain ⟨rfl, k, v, hkv, rfl⟩ := y
        have hc : m[i]? = some m[i] := List.getElem?_eq_getElem hlt
        have e : (Sum.inl m[i].1, V.int m[i].2) = (k, v) := by
          unfold pV at hkv
          rw [List.getElem?_map, hc] at hkv
          exact Option.some.inj hkv
        cases e
        exact hs i m[i] σ' G2 H3 hc w2 (w.g.trans e2) P
    · have e : i = m.length := by omega
      subst e
      exact .inl ⟨⟨ha2, by rw [hlen]; exact Nat.le_refl _⟩, hd σ' G2 H' w2 (w.g.trans e2) P⟩
theorem q_forK {m : PI} (Inv : Nat → L2.St → Hp → Hp → Prop) (w0 : Wk G0 H0 G H) (h : EvD K tl σ G H (pD m)) (h0 : ∀ G1 H1, Wk G H G1 H1 → Inv 0 σ G1 H1)
    (hs : ∀ i c σ' G1 H1, m[i]? = some c → Wk G0 H0 G1 H1 → Same G G1 → Inv i σ' G1 H1 → g (.int c.1) σ' H1 fun σ2 H2 => tu { E with nx := Btw G0 H0 G1 (Inv (i + 1)), ct := Btw G0 H0 G1 (Inv (i + 1)), bk := tz E } σ2 H2)
    (hd : ∀ σ' G1 H1, Wk G0 H0 G1 H1 → Same G G1 → Inv m.length σ' G1 H1 → tz E σ' H1) : tSeq (tFor (iKeys tl) g tu) tz E σ H := s_forK K (E := { E with nx := tz E }) Inv w0 h h0 hs hd
/-- return d, d an owned dict -/
theorem s_retF {i : Nat} {a : Addr} {m : PI} (w : Wk G0 H0 G H) (hs : σ[i]? = some (some (.ref a))) (h0 : H0 a = none) (ga : G a = none) (ha : H a = some (.dK (pV m)))
    (q : ∀ v G1 H1, Wk G0 H0 G1 H1 → Rp K G1 v (pD m) → E.rt v H1) : tRet (tFrz (tVar i)) E σ H :=
  ⟨_, hs, a, _, rfl, ha, True.intro, fun od => q _ _ _ (Wk.frz w h0 ga) (rp_mkD (o := od) upd_same)⟩
/-- d[k] = e, d an owned dict -/
theorem s_dput {i : Nat} {a : Addr} {m : PI} {k c : Int} (b : Same G H) (hv : EvD K te σ G H (.int c)) (hs : σ[i]? = some (some (.ref a))) (ga : G a = none) (ha : H a = some (.dK (pV m))) (hk : EvD K tb σ G H (.int k)) (hl : m.length < 1000000)
    (q : ∀ G1 H1, Wk G H G1 H1 → G1 a = none → E.nx σ (upd H1 a (.dK (pV (putI m k c))))) : sDPut (tVar i) tb te E σ H :=
  hv G H (Wk.refl b) _ fun x G1 H1 w1 hx => ⟨_, hs, hk G1 H1 w1 _ fun y G2 H2 w2 hy => by
    cases hx; cases hy
    have k2 := (w1.trans w2).keep ha ga
    refine ⟨a, _, rfl, DPut.k (k := Sum.inl k) (v := V.int c) k2.1 ?_, ?_⟩
    · unfold pV; rw [List.length_map]; exact Nat.lt_of_lt_of_le hl (by decide)
    · rw [putK_pV]; exact q G2 H2 (w1.trans w2) k2.2⟩
theorem q_dictO {i : Nat} {m : PI} (b : Same G H) (h : EvD K tl σ G H (.list (m.map fun c => .tuple [.int c.1, .int c.2]))) (nd : (keysI m).Nodup)
    (q : ∀ a G1 H1, Wk G H G1 H1 → H1 a = none → tz E (σ.set i (some (.ref a))) (upd H1 a (.dK (pV m)))) : tSeq (tAsg (tCB (rDictP K) (tCons tl tNil)) (gName i)) tz E σ H :=
  h G H (Wk.refl b) _ fun x G2 H2 w2 hx => by
    cases hx with
    | @lst a xs _ hs hl =>
      obtain ⟨ps, rfl, hp⟩ := pairs_of hl
      refine ⟨a, ps, pV m, rfl, sql_up w2.b hs, paired_up w2.b hp, fun p hn => ?_⟩
      have e2 : mergeK [] (pV m) = pV m := mergeK_pV [] m (by show (([] : List Int) ++ keysI m).Nodup; rw [List.nil_append]; exact nd)
      rw [e2]
      exact q p G2 H2 w2 hn
/-- an owned dict has a number more at a power (the promise of a def) -/
def spPut : Sp := fun vs H Q _ => ∃ (a : Addr) (m : PI) (k c : Int), vs = [.ref a, .int k, .int c] ∧ H a = some (.dK (pV m)) ∧ m.length < 1000000 ∧
  ∀ H1, (∀ b u, b ≠ a → H b = some u → H1 b = some u) → H1 a = some (.dK (pV (putI m k (co m k + c)))) → Q .non H1
theorem spPut_len : ∀ vs H Q E, spPut vs H Q E → vs.length = 3 := fun vs H Q E h => by
  obtain ⟨_, _, _, _, rfl, _⟩ := h; rfl
theorem s_lput {i : Nat} {a : Addr} {m : PI} {k c : Int} {X : XK} (w : Wk G0 H0 G H) (h0 : H0 a = none) (hs : σ[i]? = some (some (.ref a))) (ga : G a = none) (ha : H a = some (.dK (pV m))) (hl : m.length < 1000000) (hk : EvD K tb σ G H (.int k)) (hc : EvD K tx σ G H (.int c))
    (q : ∀ G1 H1, Wk G0 H0 G1 H1 → Same G G1 → G1 a = none → H1 a = some (.dK (pV (putI m k (co m k + c)))) → E.nx σ H1) : tDrop (tCall spPut [] X (tCons (tVar i) (tCons tb (tCons tx tNil)))) E σ H :=
  ⟨_, hs, hk G H (Wk.refl w.b) _ fun x G1 H1 w1 hx => hc G1 H1 w1 _ fun y G2 H2 w2 hy => by
    cases hx; cases hy
    have k2 := (w1.trans w2).keep ha ga
    refine ⟨a, m, k, c, rfl, k2.1, hl, fun H3 hf h3 => ?_⟩
    have w3 := w.trans (w1.trans w2)
    exact q G2 H3 ⟨w3.g, fun b u e => hf b u (ne_of_none e k2.2) (w3.b b u e), fun b u e => hf b u (ne_of_none e h0) (w3.h b u e), w3.n⟩ (w1.g.trans w2.g) k2.2 h3⟩
end
end L3
/-! Fractions of two-bridge links: what the program's functions give, in plain Lean. -/
namespace TF
open L3
abbrev D := PySem.PyData
def toInts : List D → Option (List Int)
  | [] => some []
  | .int i :: ds => (toInts ds).map (i :: ·)
  | _ :: _ => none
theorem toInts_iL (ns : List Int) : toInts (iL ns) = some ns := by
  induction ns with
  | nil => rfl
  | cons n ns ih => show (toInts (iL ns)).map (n :: ·) = _; rw [ih]; rfl
theorem toInts_some : ∀ {ds : List D} {ns : List Int}, toInts ds = some ns → ds = iL ns
  | [], ns, h => by cases h; rfl
  | d :: ds, ns, h => by
    cases d with
    | int i =>
      unfold toInts at h
      cases e : toInts ds with
      | none => rw [e] at h; cases h
      | some ms =>
        rw [e] at h; cases h
        rw [toInts_some e]; rfl
    | _ => unfold toInts at h; cases h
theorem toInts_all : ∀ {ds : List D}, (ds.map isW).all id = (toInts ds).isSome
  | [] => rfl
  | d :: ds => by
    cases d with
    | int i =>
      have ih := toInts_all (ds := ds)
      show (true && (ds.map isW).all id) = ((toInts ds).map (i :: ·)).isSome
      rw [ih]; cases toInts ds <;> rfl
    | none => rfl
    | bool b => rfl
    | str s => rfl
    | list xs => rfl
    | tuple xs => rfl
    | dict xs => rfl
def ab (i : Int) : Int := if i < 0 then -i else i
def absSum (ns : List Int) : Int := (ns.map ab).sum
def seqOf : D → Option (List D)
  | .list ds => some ds
  | .tuple ds => some ds
  | _ => none
theorem seqOf_is {d : D} {ds : List D} (h : seqOf d = some ds) : d = .list ds ∨ d = .tuple ds := by
  cases d with
  | list xs => cases h; exact .inl rfl
  | tuple xs => cases h; exact .inr rfl
  | _ => cases h
theorem seqOf_row {d : D} : (seqOf d).isSome = isRow d := by cases d <;> rfl
/-- a row of whole numbers, told -/
def rowOk (d : D) : Option (List Int) :=
  match seqOf d with
  | none => none
  | some ds => if 1 ≤ ds.length ∧ ds.length ≤ 60 then
      match toInts ds with
      | none => none
      | some ns => if absSum ns ≤ 60 then some ns else none
    else none
theorem ab_nn (i : Int) : 0 ≤ ab i := by unfold ab; split <;> omega
theorem absSum_nn : ∀ (ns : List Int), 0 ≤ absSum ns
  | [] => Int.le_refl 0
  | n :: ns => by
    have h1 := ab_nn n
    have h2 := absSum_nn ns
    show 0 ≤ (ab n :: ns.map ab).sum
    rw [List.sum_cons]; unfold absSum at h2; omega
theorem absSum_mem : ∀ {ns : List Int} {n : Int}, n ∈ ns → ab n ≤ absSum ns
  | m :: ns, n, h => by
    have h1 := ab_nn m
    have h2 := absSum_nn ns
    show ab n ≤ (ab m :: ns.map ab).sum
    rw [List.sum_cons]
    rcases List.mem_cons.mp h with rfl | h
    · unfold absSum at h2; omega
    · have := absSum_mem h
      unfold absSum at this h2; omega
theorem rowOk_some {d : D} {ns : List Int} (h : rowOk d = some ns) : (d = .list (iL ns) ∨ d = .tuple (iL ns)) ∧ 1 ≤ ns.length ∧ ns.length ≤ 60 ∧ absSum ns ≤ 60 := by
  unfold rowOk at h
  cases e : seqOf d with
  | none => rw [e] at h; cases h
  | some ds =>
    rw [e] at h
    simp only at h
    split at h
    · rename_i hl
      cases e2 : toInts ds with
      | none => rw [e2] at h; cases h
      | some ms =>
        rw [e2] at h
        simp only at h
        split at h
        · cases h
          have := toInts_some e2
          subst this
          have hl' : (iL ns).length = ns.length := by simp [iL]
          rw [hl'] at hl
          exact ⟨seqOf_is e, hl.1, hl.2, by assumption⟩
        · cases h
    · cases h
theorem rowOk_ab {d : D} {ns : List Int} (h : rowOk d = some ns) {n : Int} (hn : n ∈ ns) : ab n ≤ 60 := Int.le_trans (absSum_mem hn) (rowOk_some h).2.2.2
def fold1 (ns : List Int) : Int × Int := ns.foldr (fun part pq => (part * pq.1 + pq.2, pq.1)) (1, 0)
def norm1 (pq : Int × Int) : Int × Int := if pq.1 < 0 then (-pq.1, -pq.2) else pq
/-- the fraction of a row -/
def fracOf (ns : List Int) : Int × Int :=
  let pq := norm1 (fold1 ns)
  if pq.1 ≠ 0 then (pq.1, pq.2 % pq.1) else (0, 1)
def tupI (pq : Int × Int) : D := .tuple [.int pq.1, .int pq.2]
/-- is it a fraction that is let -/
def okFrac (p q : D) : Option (Int × Int) :=
  match p, q with
  | .int p, .int q => if 0 ≤ p ∧ p ≤ 1000000000 ∧ (p = 0 → q = 1) ∧ (0 < p → 0 ≤ q ∧ q < p ∧ Nat.gcd p.natAbs q.natAbs = 1) then some (p, q) else none
  | _, _ => none
theorem okFrac_int (p q : Int) : okFrac (.int p) (.int q) = if 0 ≤ p ∧ p ≤ 1000000000 ∧ (p = 0 → q = 1) ∧ (0 < p → 0 ≤ q ∧ q < p ∧ Nat.gcd p.natAbs q.natAbs = 1) then some (p, q) else none := rfl
def okSigned (p e : D) : Option (Int × Int) :=
  match p, e with
  | .int p, .int e => if 1 ≤ p ∧ p ≤ 1000000000 ∧ ab e < p ∧ Nat.gcd p.natAbs e.natAbs = 1 ∧ ¬ (p + e) % 2 = 0 then some (p, e) else none
  | _, _ => none
theorem okSigned_int (p e : Int) : okSigned (.int p) (.int e) = if 1 ≤ p ∧ p ≤ 1000000000 ∧ ab e < p ∧ Nat.gcd p.natAbs e.natAbs = 1 ∧ ¬ (p + e) % 2 = 0 then some (p, e) else none := rfl
/-- the regular row, by n steps at most -/
def reg : Nat → Int → Int → List Int
  | 0, _, _ => []
  | n + 1, p, q => if q = 0 then [] else p / q :: reg n q (p % q)
theorem reg_zero : ∀ (n : Nat) (p : Int), reg n p 0 = []
  | 0, _ => rfl
  | n + 1, p => by show (if (0 : Int) = 0 then [] else _) = []; rw [if_pos rfl]
theorem reg_pos {n : Nat} {p q : Int} (h : q ≠ 0) : reg (n + 1) p q = p / q :: reg n q (p % q) := by
  show (if q = 0 then [] else _) = _; rw [if_neg h]
theorem half {q r : Int} (h : 0 < r) (hr : r < q) : 2 * (q % r) < q := by
  have h1 := Int.emod_lt_of_pos q h
  have h2 := Int.emod_nonneg q (show r ≠ 0 by omega)
  have h3 := Int.mul_ediv_add_emod q r
  have h4 : 1 ≤ q / r := by
    have := Int.ediv_le_ediv h (show r ≤ q by omega)
    rwa [Int.ediv_self (by omega)] at this
  have h5 : r * 1 ≤ r * (q / r) := Int.mul_le_mul_of_nonneg_left h4 (by omega)
  omega
theorem reg_log : ∀ (k : Nat) (p q : Int), 0 ≤ q → q < 2 ^ k → ∀ n, 2 * k + 1 ≤ n → reg n p q = reg (2 * k + 1) p q ∧ (reg n p q).length ≤ 2 * k
  | 0, p, q, h0, h1, n, hn => by
    have : q = 0 := by simp at h1; omega
    subst this
    rw [reg_zero, reg_zero]; exact ⟨rfl, by simp⟩
  | k + 1, p, q, h0, h1, n, hn => by
    by_cases hq : q = 0
    · subst hq; rw [reg_zero, reg_zero]; exact ⟨rfl, by simp⟩
    · obtain ⟨n, rfl⟩ : ∃ m, n = m + 2 := ⟨n - 2, by omega⟩
      have r0 := Int.emod_nonneg p hq
      have r1 := Int.emod_lt_of_pos p (show 0 < q by omega)
      rw [show 2 * (k + 1) + 1 = 2 * k + 1 + 1 + 1 by omega, reg_pos (n := n + 1) hq, reg_pos (n := 2 * k + 1 + 1) hq]
      by_cases hr : p % q = 0
      · rw [hr, reg_zero, reg_zero]; exact ⟨rfl, by simp only [List.length_cons, List.length_nil]; omega⟩
      · rw [reg_pos (n := n) hr, reg_pos (n := 2 * k + 1) hr]
        have s0 := Int.emod_nonneg q hr
        have s1 := half (show 0 < p % q by omega) r1
        have h2 : (2 : Int) ^ (k + 1) = 2 ^ k * 2 := Int.pow_succ ..
        obtain ⟨e1, e2⟩ := reg_log k (p % q) (q % (p % q)) s0 (by omega) n (by omega)
        rw [e1] at e2 ⊢
        exact ⟨rfl, by simp only [List.length_cons]; omega⟩
/-- the regular row -/
def regF (p q : Int) : List Int := reg 100 p q
theorem p30 : (2 : Int) ^ 30 = 1073741824 := by decide
theorem regF_is {p q : Int} (h0 : 0 ≤ q) (h1 : q ≤ 1000000000) {n : Nat} (hn : 61 ≤ n) : reg n p q = regF p q := by
  have hq : q < 2 ^ 30 := by rw [p30]; omega
  rw [(reg_log 30 p q h0 hq n hn).1, show regF p q = reg 100 p q from rfl, (reg_log 30 p q h0 hq 100 (by omega)).1]
theorem regF_len {p q : Int} (h0 : 0 ≤ q) (h1 : q ≤ 1000000000) : (regF p q).length ≤ 60 :=
  (reg_log 30 p q h0 (by rw [p30]; omega) 100 (by omega)).2
theorem regF_zero (p : Int) : regF p 0 = [] := reg_zero _ _
theorem regF_pos {p q : Int} (h0 : 0 < q) (h1 : q ≤ 1000000000) : regF p q = p / q :: regF q (p % q) := by
  have r0 := Int.emod_nonneg p (show q ≠ 0 by omega)
  have r1 := Int.emod_lt_of_pos p h0
  rw [← regF_is (n := 100) (by omega) h1 (by omega), reg_pos (n := 99) (by omega), regF_is r0 (by omega) (by omega)]
/-! ### even rows -/
def evPart (p e : Int) : Int := if p.fdiv e % 2 = 1 then p.fdiv e + 1 else p.fdiv e
def evn : Nat → Int → Int → List Int
  | 0, _, _ => []
  | n + 1, p, e => if e = 0 then [] else evPart p e :: evn n e (p - evPart p e * e)
theorem fdiv_spec (p : Int) {e : Int} (h : e ≠ 0) : p = p.fdiv e * e + p.fmod e ∧ (0 < e → 0 ≤ p.fmod e ∧ p.fmod e < e) ∧ (e < 0 → e < p.fmod e ∧ p.fmod e ≤ 0) := by
  refine ⟨?_, fun h => ⟨Int.fmod_nonneg_of_pos p h, Int.fmod_lt_of_pos p h⟩, fun h => ?_⟩
  · have := Int.mul_fdiv_add_fmod p e
    rw [Int.mul_comm]; omega
  · have h1 : p.fmod e = - ((-p).fmod (-e)) := by
      rw [Int.neg_fmod_neg]; omega
    have h2 := Int.fmod_nonneg_of_pos (-p) (show 0 < -e by omega)
    have h3 := Int.fmod_lt_of_pos (-p) (show 0 < -e by omega)
    omega
theorem evPart_even (p e : Int) : evPart p e % 2 = 0 := by
  unfold evPart; split <;> omega
/-- the rest is nearer to 0 than e -/
theorem evPart_rest {p e : Int} (he : e ≠ 0) (hp : (p + e) % 2 = 1) : (p - evPart p e * e).natAbs < e.natAbs ∧ (e + (p - evPart p e * e)) % 2 = 1 := by
  obtain ⟨h1, h2, h3⟩ := fdiv_spec p he
  have he2 := evPart_even p e
  obtain ⟨c, hc⟩ : ∃ c, evPart p e = 2 * c := ⟨evPart p e / 2, by omega⟩
  have hx : evPart p e * e = 2 * (c * e) := by rw [hc, Int.mul_assoc]
  refine ⟨?_, by omega⟩
  have hd : evPart p e = p.fdiv e ∨ evPart p e = p.fdiv e + 1 := by unfold evPart; split <;> simp
  have key : (p - evPart p e * e = p.fmod e) ∨ (p - evPart p e * e = p.fmod e - e) := by
    rcases hd with q | q
    · left; rw [q]; omega
    · right; rw [q, Int.add_mul, Int.one_mul]; omega
  generalize evPart p e * e = y at *
  generalize p.fmod e = r at *
  generalize p.fdiv e * e = z at *
  rcases Int.lt_or_gt_of_ne he with hlt | hgt
  · have := h3 hlt; omega
  · have := h2 hgt; omega
theorem evn_zero : ∀ (n : Nat) (p : Int), evn n p 0 = []
  | 0, _ => rfl
  | n + 1, p => by show (if (0 : Int) = 0 then [] else _) = []; rw [if_pos rfl]
theorem evn_pos {n : Nat} {p e : Int} (h : e ≠ 0) : evn (n + 1) p e = evPart p e :: evn n e (p - evPart p e * e) := by
  show (if e = 0 then [] else _) = _; rw [if_neg h]
theorem evn_big : ∀ (n m : Nat) (p e : Int), (p + e) % 2 = 1 → e.natAbs ≤ n → e.natAbs ≤ m → evn n p e = evn m p e
  | 0, m, p, e, _, hn, _ => by
    have : e = 0 := by omega
    subst this; rw [evn_zero, evn_zero]
  | n + 1, m, p, e, hp, hn, hm => by
    by_cases he : e = 0
    · subst he; rw [evn_zero, evn_zero]
    · obtain ⟨m, rfl⟩ : ∃ k, m = k + 1 := ⟨m - 1, by omega⟩
      obtain ⟨h1, h2⟩ := evPart_rest he hp
      rw [evn_pos he, evn_pos he, evn_big n m e _ h2 (by omega) (by omega)]
/-- the even row, however long -/
def evF (p e : Int) : List Int := evn e.natAbs p e
theorem evF_zero (p : Int) : evF p 0 = [] := rfl
theorem evF_pos {p e : Int} (he : e ≠ 0) (hp : (p + e) % 2 = 1) : evF p e = evPart p e :: evF e (p - evPart p e * e) := by
  obtain ⟨h1, h2⟩ := evPart_rest he hp
  unfold evF
  obtain ⟨k, hk⟩ : ∃ k, e.natAbs = k + 1 := ⟨e.natAbs - 1, by omega⟩
  rw [hk, evn_pos he, evn_big k _ e _ h2 (by omega) (Nat.le_refl _)]
theorem fdiv_bound (p : Int) {e : Int} (he : e ≠ 0) : (p.fdiv e).natAbs ≤ p.natAbs + 1 := by
  obtain ⟨h1, h2, h3⟩ := fdiv_spec p he
  have h4 : (p.fdiv e).natAbs * e.natAbs = (p - p.fmod e).natAbs := by
    rw [← Int.natAbs_mul]; congr 1; omega
  have h5 : (p.fdiv e).natAbs * 1 ≤ (p.fdiv e).natAbs * e.natAbs := Nat.mul_le_mul_left _ (by omega)
  rcases Int.lt_or_gt_of_ne he with hlt | hgt
  · have := h3 hlt
    have h6 : (p - p.fmod e).natAbs ≤ p.natAbs + (e.natAbs - 1) := by omega
    have h7 : ((p.fdiv e).natAbs - 1) * e.natAbs ≤ p.natAbs := by
      rw [Nat.sub_mul, Nat.one_mul, h4]; omega
    have h8 : ((p.fdiv e).natAbs - 1) * 1 ≤ ((p.fdiv e).natAbs - 1) * e.natAbs := Nat.mul_le_mul_left _ (by omega)
    omega
  · have := h2 hgt
    have h6 : (p - p.fmod e).natAbs ≤ p.natAbs + (e.natAbs - 1) := by omega
    have h7 : ((p.fdiv e).natAbs - 1) * e.natAbs ≤ p.natAbs := by
      rw [Nat.sub_mul, Nat.one_mul, h4]; omega
    have h8 : ((p.fdiv e).natAbs - 1) * 1 ≤ ((p.fdiv e).natAbs - 1) * e.natAbs := Nat.mul_le_mul_left _ (by omega)
    omega
/-! ### inverses -/
def invGo : Nat → Int → Int → Int → Int → Int
  | 0, last, _, _, _ => last
  | n + 1, last, here, left, rest => if rest = 0 then last else invGo n here (last - left / rest * here) rest (left - left / rest * rest)
theorem rest_is (left rest : Int) : left - left / rest * rest = left % rest := by
  have := Int.mul_ediv_add_emod left rest
  rw [Int.mul_comm] at this; omega
def invF (p q : Int) : Int := invGo q.toNat 0 1 p q % p
theorem invGo_zero : ∀ (n : Nat) (last here left : Int), invGo n last here left 0 = last
  | 0, _, _, _ => rfl
  | n + 1, last, here, left => by show (if (0 : Int) = 0 then last else _) = last; rw [if_pos rfl]
theorem invGo_pos {n : Nat} {last here left rest : Int} (h : rest ≠ 0) : invGo (n + 1) last here left rest = invGo n here (last - left / rest * here) rest (left - left / rest * rest) := by
  show (if rest = 0 then last else _) = _; rw [if_neg h]
theorem invGo_big : ∀ (n m : Nat) (last here left rest : Int), 0 ≤ rest → rest.toNat ≤ n → rest.toNat ≤ m → invGo n last here left rest = invGo m last here left rest
  | 0, m, last, here, left, rest, h0, hn, hm => by
    have : rest = 0 := by omega
    subst this; rw [invGo_zero, invGo_zero]
  | n + 1, m, last, here, left, rest, h0, hn, hm => by
    by_cases hr : rest = 0
    · subst hr; rw [invGo_zero, invGo_zero]
    · obtain ⟨m, rfl⟩ : ∃ k, m = k + 1 := ⟨m - 1, by omega⟩
      have e := rest_is left rest
      have r0 := Int.emod_nonneg left hr
      have r1 := Int.emod_lt_of_pos left (show 0 < rest by omega)
      rw [invGo_pos hr, invGo_pos hr]
      exact invGo_big n m _ _ _ _ (by omega) (by omega) (by omega)
def invG (last here left rest : Int) : Int := invGo rest.toNat last here left rest
theorem invG_zero (last here left : Int) : invG last here left 0 = last := rfl
theorem invG_pos {last here left rest : Int} (h : 0 < rest) : invG last here left rest = invG here (last - left / rest * here) rest (left - left / rest * rest) := by
  have e := rest_is left rest
  have r0 := Int.emod_nonneg left (show rest ≠ 0 by omega)
  have r1 := Int.emod_lt_of_pos left h
  unfold invG
  obtain ⟨k, hk⟩ : ∃ k, rest.toNat = k + 1 := ⟨rest.toNat - 1, by omega⟩
  rw [hk, invGo_pos (by omega)]
  exact invGo_big _ _ _ _ _ _ (by omega) (by omega) (by omega)
theorem okSigned_some {d e : D} {pq : Int × Int} (h : okSigned d e = some pq) : d = .int pq.1 ∧ e = .int pq.2 ∧ 1 ≤ pq.1 ∧ pq.1 ≤ 1000000000 ∧ ab pq.2 < pq.1 ∧ Nat.gcd pq.1.natAbs pq.2.natAbs = 1 ∧ (pq.1 + pq.2) % 2 = 1 := by
  cases d with
  | int p =>
    cases e with
    | int q =>
      rw [okSigned_int] at h
      split at h
      · cases h; rename_i hh; exact ⟨rfl, rfl, hh.1, hh.2.1, hh.2.2.1, hh.2.2.2.1, by omega⟩
      · cases h
    | _ => cases h
  | _ => cases h
end TF
/-! Trees without dicts, their depth; the greatest common divisor by steps. -/
namespace TF
open L3
mutual
def dep : D → Nat
  | .list ds => depA ds + 1
  | .tuple ds => depA ds + 1
  | _ => 0
def depA : List D → Nat
  | [] => 0
  | d :: ds => max (dep d) (depA ds)
end
theorem dep_mem : ∀ {ds : List D} {d : D}, d ∈ ds → dep d ≤ depA ds
  | e :: ds, d, h => by
    simp only [depA]
    rcases List.mem_cons.mp h with rfl | h
    · omega
    · have := dep_mem h; omega
/-! the longest row in a tree -/
mutual
def wid : D → Nat
  | .list ds => max ds.length (widA ds)
  | .tuple ds => max ds.length (widA ds)
  | _ => 0
def widA : List D → Nat
  | [] => 0
  | d :: ds => max (wid d) (widA ds)
end
theorem wid_mem : ∀ {ds : List D} {d : D}, d ∈ ds → wid d ≤ widA ds
  | e :: ds, d, h => by
    simp only [widA]
    rcases List.mem_cons.mp h with rfl | h
    · omega
    · have := wid_mem h; omega
theorem wid_le (d : D) (ds : List D) (h : seqOf d = some ds) : ds.length ≤ wid d := by
  rcases seqOf_is h with rfl | rfl <;> (simp only [wid]; omega)
theorem lay_mem : ∀ {ds : List D} {d : D}, PySem.PyData.canLayAll0 ds = true → d ∈ ds → d.canLay0 = true
  | e :: ds, d, h, hm => by
    simp only [PySem.PyData.canLayAll0, Bool.and_eq_true] at h
    rcases List.mem_cons.mp hm with rfl | hm
    · exact h.1
    · exact lay_mem h.2 hm
/-- Euclid's steps on a pair of numbers from 0 on -/
theorem gcd_step {x y : Int} (hx : 0 ≤ x) (hy : 0 < y) : Nat.gcd y.natAbs (x % y).natAbs = Nat.gcd x.natAbs y.natAbs := by
  obtain ⟨a, rfl⟩ : ∃ a : Nat, x = a := ⟨x.toNat, by omega⟩
  obtain ⟨b, rfl⟩ : ∃ b : Nat, y = b := ⟨y.toNat, by omega⟩
  have e : ((a : Int) % (b : Int)) = ((a % b : Nat) : Int) := by omega
  rw [e]
  simp only [Int.natAbs_natCast]
  rw [Nat.gcd_comm a b, Nat.gcd_rec b a, Nat.gcd_comm]
end TF
/-! What is true of the rows and inverses of fractions. -/
namespace TF
open L3
/-! ### regular rows -/
theorem fold1_cons (n : Int) (ns : List Int) : fold1 (n :: ns) = (n * (fold1 ns).1 + (fold1 ns).2, (fold1 ns).1) := rfl
theorem gcd_one_zero {p : Int} (h : Nat.gcd p.natAbs (0 : Int).natAbs = 1) : p.natAbs = 1 := by simpa using h
theorem regF_fold : ∀ (n : Nat) (p q : Int), q.toNat < n → 0 ≤ p → 0 ≤ q → q ≤ 1000000000 → Nat.gcd p.natAbs q.natAbs = 1 → fold1 (regF p q) = (p, q)
  | n + 1, p, q, hn, hp, h0, h1, hg => by
    by_cases hq : q = 0
    · subst hq
      have := gcd_one_zero hg
      rw [regF_zero]
      have : p = 1 := by omega
      subst this; rfl
    · have hq0 : 0 < q := by omega
      have r0 := Int.emod_nonneg p hq
      have r1 := Int.emod_lt_of_pos p hq0
      have e := Int.mul_ediv_add_emod p q
      rw [regF_pos hq0 h1, fold1_cons, regF_fold n q (p % q) (by omega) h0 r0 (by omega) (by rw [gcd_step hp hq0]; exact hg)]
      simp only
      rw [show p / q * q = q * (p / q) from Int.mul_comm .., e]
theorem regF_last : ∀ (n : Nat) (p q : Int), q.toNat < n → 1 ≤ q → q < p → q ≤ 1000000000 → Nat.gcd p.natAbs q.natAbs = 1 → ∃ l x, regF p q = l ++ [x] ∧ 2 ≤ x
  | n + 1, p, q, hn, h0, hp, h1, hg => by
    have hq : q ≠ 0 := by omega
    have r0 := Int.emod_nonneg p hq
    have r1 := Int.emod_lt_of_pos p (show 0 < q by omega)
    have e := Int.mul_ediv_add_emod p q
    rw [regF_pos (by omega) h1]
    by_cases hr : p % q = 0
    · rw [hr, regF_zero]
      have hg' := gcd_step (x := p) (y := q) (by omega) (by omega)
      rw [hr, hg] at hg'
      have := gcd_one_zero hg'
      have : q = 1 := by omega
      subst this
      exact ⟨[], p / 1, rfl, by rw [Int.ediv_one]; omega⟩
    · obtain ⟨l, x, hl, hx⟩ := regF_last n q (p % q) (by omega) (by omega) (by omega) (by omega) (by rw [gcd_step (by omega) (by omega)]; exact hg)
      exact ⟨p / q :: l, x, by rw [hl]; rfl, hx⟩
theorem regF_bound : ∀ (n : Nat) (p q B : Int), q.toNat < n → 0 ≤ p → p ≤ B → 0 ≤ q → q ≤ B → q ≤ 1000000000 → ∀ x ∈ regF p q, 0 ≤ x ∧ x ≤ B
  | n + 1, p, q, B, hn, hp, hpB, h0, hqB, h1, x, hx => by
    by_cases hq : q = 0
    · subst hq; rw [regF_zero] at hx; cases hx
    · have r0 := Int.emod_nonneg p hq
      have r1 := Int.emod_lt_of_pos p (show 0 < q by omega)
      rw [regF_pos (by omega) h1] at hx
      rcases List.mem_cons.mp hx with rfl | hx
      · exact ⟨Int.ediv_nonneg hp h0, Int.le_trans (Int.ediv_le_self _ hp) hpB⟩
      · exact regF_bound n q (p % q) B (by omega) h0 hqB r0 (by omega) (by omega) x hx
/-- a regular row leads back -/
theorem regF_frac {p q : Int} (h0 : 0 ≤ q) (h1 : q < p) (h2 : p ≤ 1000000000) (hg : Nat.gcd p.natAbs q.natAbs = 1) : fracOf (regF p q) = (p, q) := by
  unfold fracOf
  have hn : norm1 (fold1 (regF p q)) = (p, q) := by
    rw [regF_fold (q.toNat + 1) p q (by omega) (by omega) h0 (by omega) hg]
    unfold norm1
    simp only
    rw [if_neg (by omega)]
  rw [hn]
  simp only
  rw [if_pos (by omega), Int.emod_eq_of_lt h0 h1]
/-! ### inverses -/
theorem invG_spec (p q : Int) : ∀ (n : Nat) (last here left rest : Int), rest.toNat < n → 0 ≤ left → 0 ≤ rest → Nat.gcd left.natAbs rest.natAbs = 1 → p ∣ last * q - left → p ∣ here * q - rest → p ∣ invG last here left rest * q - 1
  | n + 1, last, here, left, rest, hn, hl, hr, hg, d1, d2 => by
    by_cases h : rest = 0
    · subst h
      have := gcd_one_zero hg
      rw [invG_zero]
      have : left = 1 := by omega
      subst this; exact d1
    · have e := rest_is left rest
      have m0 := Int.emod_nonneg left h
      have m1 := Int.emod_lt_of_pos left (show 0 < rest by omega)
      rw [invG_pos (by omega)]
      refine invG_spec p q n _ _ _ _ (by omega) hr (by omega) (by rw [e, gcd_step hl (by omega)]; exact hg) d2 ?_
      have : (last - left / rest * here) * q - (left - left / rest * rest) = (last * q - left) - left / rest * (here * q - rest) := by
        rw [Int.sub_mul, Int.mul_sub, Int.mul_assoc]; omega
      rw [this]
      exact Int.dvd_sub d1 (Int.dvd_trans d2 (Int.dvd_mul_left _ _))
theorem invF_spec {p q : Int} (hp : 2 ≤ p) (h0 : 0 ≤ q) (hg : Nat.gcd p.natAbs q.natAbs = 1) : 0 < invF p q ∧ invF p q < p ∧ q * invF p q % p = 1 := by
  have d := invG_spec p q (q.toNat + 1) 0 1 p q (by omega) (by omega) h0 hg (by rw [Int.zero_mul, Int.zero_sub]; exact Int.dvd_neg.mpr (Int.dvd_refl p)) (by rw [Int.one_mul, Int.sub_self]; exact Int.dvd_zero p)
  have e : invF p q = invG 0 1 p q % p := rfl
  have m0 := Int.emod_nonneg (invG 0 1 p q) (show p ≠ 0 by omega)
  have m1 := Int.emod_lt_of_pos (invG 0 1 p q) (show 0 < p by omega)
  have k : q * invF p q % p = 1 := by
    rw [e, Int.mul_emod, Int.emod_emod, ← Int.mul_emod, Int.mul_comm]
    have := Int.emod_eq_emod_iff_emod_sub_eq_zero.mpr (Int.emod_eq_zero_of_dvd d)
    rw [this, Int.emod_eq_of_lt (by decide) (by omega)]
  refine ⟨?_, by omega, k⟩
  rcases Int.lt_or_eq_of_le m0 with h | h
  · omega
  · exfalso
    rw [e, ← h, Int.mul_zero, Int.zero_emod] at k
    cases k
/-! ### even rows -/
theorem gcd_natAbs_sub {p e c : Int} : Nat.gcd e.natAbs (p - c * e).natAbs = Nat.gcd p.natAbs e.natAbs := by
  apply Nat.dvd_antisymm
  · refine Nat.dvd_gcd ?_ (Nat.gcd_dvd_left _ _)
    have h1 : ((Nat.gcd e.natAbs (p - c * e).natAbs : Nat) : Int) ∣ e := Int.ofNat_dvd_left.mpr (Nat.gcd_dvd_left _ _)
    have h2 : ((Nat.gcd e.natAbs (p - c * e).natAbs : Nat) : Int) ∣ p - c * e := Int.ofNat_dvd_left.mpr (Nat.gcd_dvd_right _ _)
    have := Int.dvd_add h2 (Int.dvd_trans h1 (Int.dvd_mul_left c e))
    rw [Int.sub_add_cancel] at this
    exact Int.ofNat_dvd_left.mp this
  · refine Nat.dvd_gcd (Nat.gcd_dvd_right _ _) ?_
    have h1 : ((Nat.gcd p.natAbs e.natAbs : Nat) : Int) ∣ p := Int.ofNat_dvd_left.mpr (Nat.gcd_dvd_left _ _)
    have h2 : ((Nat.gcd p.natAbs e.natAbs : Nat) : Int) ∣ e := Int.ofNat_dvd_left.mpr (Nat.gcd_dvd_right _ _)
    exact Int.ofNat_dvd_left.mp (Int.dvd_sub h1 (Int.dvd_trans h2 (Int.dvd_mul_left c e)))
theorem evF_fold : ∀ (n : Nat) (p e : Int), e.natAbs < n → (p + e) % 2 = 1 → Nat.gcd p.natAbs e.natAbs = 1 → fold1 (evF p e) = (p, e) ∨ fold1 (evF p e) = (-p, -e)
  | n + 1, p, e, hn, ho, hg => by
    by_cases he : e = 0
    · subst he
      have := gcd_one_zero hg
      rw [evF_zero]
      have : p = 1 ∨ p = -1 := by omega
      rcases this with rfl | rfl
      · exact .inl rfl
      · exact .inr rfl
    · obtain ⟨r1, r2⟩ := evPart_rest he ho
      rw [evF_pos he ho, fold1_cons]
      rcases evF_fold n e (p - evPart p e * e) (by omega) r2 (by rw [gcd_natAbs_sub]; exact hg) with h | h
      · rw [h]; left
        simp only
        rw [Prod.mk.injEq]; exact ⟨by omega, rfl⟩
      · rw [h]; right
        simp only
        rw [Prod.mk.injEq, Int.mul_neg]; exact ⟨by omega, rfl⟩
theorem evF_frac {p e : Int} (hp : 1 ≤ p) (ho : (p + e) % 2 = 1) (hg : Nat.gcd p.natAbs e.natAbs = 1) : fracOf (evF p e) = (p, e % p) := by
  unfold fracOf
  have hn : norm1 (fold1 (evF p e)) = (p, e) := by
    unfold norm1
    rcases evF_fold (e.natAbs + 1) p e (by omega) ho hg with h | h
    · rw [h]; simp only; rw [if_neg (by omega)]
    · rw [h]; simp only; rw [if_pos (by omega), Int.neg_neg, Int.neg_neg]
  rw [hn]
  simp only
  rw [if_pos (by omega)]
theorem evF_parts : ∀ (n : Nat) (p e : Int), e.natAbs < n → (p + e) % 2 = 1 → e.natAbs < p.natAbs → ∀ x ∈ evF p e, x ≠ 0 ∧ x % 2 = 0 ∧ x.natAbs ≤ p.natAbs + 2
  | n + 1, p, e, hn, ho, hl, x, hx => by
    by_cases he : e = 0
    · subst he; rw [evF_zero] at hx; cases hx
    · obtain ⟨r1, r2⟩ := evPart_rest he ho
      rw [evF_pos he ho] at hx
      rcases List.mem_cons.mp hx with rfl | hx
      · refine ⟨fun h => ?_, evPart_even p e, ?_⟩
        · rw [h, Int.zero_mul] at r1; omega
        · have := fdiv_bound p he
          unfold evPart; split <;> omega
      · obtain ⟨a, b, c⟩ := evF_parts n e (p - evPart p e * e) (by omega) r2 (by omega) x hx
        exact ⟨a, b, by omega⟩
theorem evF_parity : ∀ (n : Nat) (p e : Int), e.natAbs < n → (p + e) % 2 = 1 → ((evF p e).length : Int) % 2 = (p + 1) % 2
  | n + 1, p, e, hn, ho => by
    by_cases he : e = 0
    · subst he; rw [evF_zero]; show (0 : Int) % 2 = _; omega
    · obtain ⟨r1, r2⟩ := evPart_rest he ho
      rw [evF_pos he ho, List.length_cons]
      have := evF_parity n e (p - evPart p e * e) (by omega) r2
      omega
theorem evn_take : ∀ (n : Nat) (p e : Int), (p + e) % 2 = 1 → evn n p e = (evF p e).take n
  | 0, p, e, _ => by simp [evn]
  | n + 1, p, e, ho => by
    by_cases he : e = 0
    · subst he; rw [evn_zero, evF_zero]; rfl
    · obtain ⟨r1, r2⟩ := evPart_rest he ho
      rw [evn_pos he, evF_pos he ho, List.take_succ_cons, evn_take n e _ r2]
theorem evn_whole {p e : Int} (ho : (p + e) % 2 = 1) {n m : Nat} (h : (evn n p e).length ≤ m) (hm : m < n) : evn n p e = evF p e := by
  rw [evn_take n p e ho] at h ⊢
  rw [List.length_take] at h
  exact List.take_of_length_le (by omega)
theorem evn_long {p e : Int} (ho : (p + e) % 2 = 1) {n m : Nat} (h : m < (evn n p e).length) : m < (evF p e).length := by
  rw [evn_take n p e ho, List.length_take] at h; omega
theorem evF_nil {p e : Int} (ho : (p + e) % 2 = 1) (h : evF p e = []) : e = 0 := by
  by_cases he : e = 0
  · exact he
  · rw [evF_pos he ho] at h; cases h
/-! ### trees of numbers -/
theorem lay_iL : ∀ (ns : List Int), PySem.PyData.canLayAll0 (iL ns) = true
  | [] => rfl
  | n :: ns => by
    show (true && PySem.PyData.canLayAll0 (iL ns)) = true
    rw [lay_iL ns]; rfl
theorem depA_iL : ∀ (ns : List Int), depA (iL ns) = 0
  | [] => rfl
  | n :: ns => by
    show max 0 (depA (iL ns)) = 0
    rw [depA_iL ns]; rfl
theorem widA_iL : ∀ (ns : List Int), widA (iL ns) = 0
  | [] => rfl
  | n :: ns => by
    show max 0 (widA (iL ns)) = 0
    rw [widA_iL ns]; rfl
theorem len_iL (ns : List Int) : (iL ns).length = ns.length := by unfold iL; rw [List.length_map]
end TF
/-! Polynomials as dicts, from power to number. -/
namespace TF
open L3
open PySem (PyData)
def suppI (p : PI) : List Int := (p.filter fun c => decide (c.2 ≠ 0)).map Prod.fst
def putsF (f : PI) (k : Int) (c : Int) (other : PI) : PI := other.foldl (fun f v => putI f (k + v.1) (co f (k + v.1) + c * v.2)) f
def prodF (one other : PI) : PI := one.foldl (fun f u => putsF f u.1 u.2 other) []
def addF (one other : PI) : PI := other.foldl (fun f v => putI f v.1 (co f v.1 + v.2)) one
def sumF (one other : PI) : PI := (addF one other).filter fun c => decide (c.2 ≠ 0)
def coD (m : PI) : PyData → PyData
  | .int k => .int (co m k)
  | d => d
def toldF (m : PI) : PyData :=
  match sortI (suppI m) with
  | [] => .tuple [.int 0, .tuple []]
  | lo :: ps => .tuple [.int lo, .tuple ((rg lo ((ps.getLastD lo) + 1 - lo).toNat).map (coD m))]
/-! ### what the operations keep -/
theorem putsF_len (f : PI) (k c : Int) : ∀ (other : PI), (putsF f k c other).length ≤ f.length + other.length := by
  intro other
  induction other generalizing f with
  | nil => exact Nat.le_refl _
  | cons v other ih =>
    show (putsF (putI f (k + v.1) (co f (k + v.1) + c * v.2)) k c other).length ≤ _
    have h1 := ih (putI f (k + v.1) (co f (k + v.1) + c * v.2))
    have h2 := putI_len f (k + v.1) (co f (k + v.1) + c * v.2)
    rw [List.length_cons]; omega
theorem putsF_nd (k c : Int) : ∀ (other : PI) {f : PI}, (keysI f).Nodup → (keysI (putsF f k c other)).Nodup := by
  intro other
  induction other with
  | nil => intro f h; exact h
  | cons v other ih => intro f h; exact ih (putI_nd h)
theorem prodF_nd (one other : PI) : (keysI (prodF one other)).Nodup := by
  unfold prodF
  have : ∀ (one : PI) (f : PI), (keysI f).Nodup → (keysI (one.foldl (fun f u => putsF f u.1 u.2 other) f)).Nodup := by
    intro one
    induction one with
    | nil => intro f h; exact h
    | cons u one ih => intro f h; exact ih _ (putsF_nd u.1 u.2 other h)
  exact this one [] .nil
theorem addF_nd (other : PI) : ∀ {one : PI}, (keysI one).Nodup → (keysI (addF one other)).Nodup := by
  induction other with
  | nil => intro f h; exact h
  | cons v other ih => intro f h; exact ih (putI_nd h)
theorem addF_len (other : PI) : ∀ (one : PI), (addF one other).length ≤ one.length + other.length := by
  induction other with
  | nil => intro f; exact Nat.le_refl _
  | cons v other ih =>
    intro f
    show (addF (putI f v.1 (co f v.1 + v.2)) other).length ≤ _
    have h1 := ih (putI f v.1 (co f v.1 + v.2))
    have h2 := putI_len f v.1 (co f v.1 + v.2)
    rw [List.length_cons]; omega
theorem filter_nd {p : PI} (q : Int × Int → Bool) (h : (keysI p).Nodup) : (keysI (p.filter q)).Nodup :=
  (List.Sublist.map _ List.filter_sublist).nodup h
theorem sumF_nd {one other : PI} (h : (keysI one).Nodup) : (keysI (sumF one other)).Nodup := filter_nd _ (addF_nd other h)
theorem sumF_len (one other : PI) : (sumF one other).length ≤ one.length + other.length := Nat.le_trans (List.length_filter_le _ _) (addF_len other one)
/-! ### the numbers -/
theorem co_of_mem {p : PI} {k c : Int} (nd : (keysI p).Nodup) (h : (k, c) ∈ p) : co p k = c := by
  unfold co; rw [valI_mem nd h]; rfl
theorem co_none {p : PI} {k : Int} (h : k ∉ keysI p) : co p k = 0 := by
  unfold co; rw [valI_none h]; rfl
theorem co_nil (k : Int) : co [] k = 0 := rfl
theorem co_filter {p : PI} (nd : (keysI p).Nodup) (k : Int) : co (p.filter fun c => decide (c.2 ≠ 0)) k = co p k := by
  have nd2 := filter_nd (fun c => decide (c.2 ≠ 0)) nd
  cases e : valI p k with
  | none =>
    have h1 : co p k = 0 := by unfold co; rw [e]; rfl
    rw [h1]
    apply co_none
    intro h
    obtain ⟨z, hz, rfl⟩ := List.mem_map.mp h
    rw [valI_mem nd (show (z.1, z.2) ∈ p from (List.mem_filter.mp hz).1)] at e
    cases e
  | some c =>
    have h1 : co p k = c := by unfold co; rw [e]; rfl
    have hm := valI_at e
    rw [h1]
    by_cases hc : c = 0
    · subst hc
      apply co_none
      intro h
      obtain ⟨z, hz, rfl⟩ := List.mem_map.mp h
      obtain ⟨hz1, hz2⟩ := List.mem_filter.mp hz
      rw [valI_mem nd (show (z.1, z.2) ∈ p from hz1)] at e
      exact (of_decide_eq_true hz2) (Option.some.inj e)
    · exact co_of_mem nd2 (List.mem_filter.mpr ⟨hm, decide_eq_true hc⟩)
theorem co_add (k : Int) : ∀ (other one : PI), (keysI other).Nodup → co (addF one other) k = co one k + co other k := by
  intro other
  induction other with
  | nil => intro one _; show co one k = co one k + 0; omega
  | cons v other ih =>
    intro one nd
    have nd' : v.1 ∉ keysI other ∧ (keysI other).Nodup := List.nodup_cons.mp nd
    show co (addF (putI one v.1 (co one v.1 + v.2)) other) k = _
    rw [ih _ nd'.2, co_put]
    have hc : co (v :: other) k = if v.1 = k then v.2 else co other k := by unfold co; rw [valI_cons]; split <;> rfl
    rw [hc]
    by_cases h : k = v.1
    · subst h
      rw [if_pos rfl, if_pos rfl, co_none nd'.1]; omega
    · rw [if_neg h, if_neg (fun e => h e.symm)]
theorem co_sum {one other : PI} (n1 : (keysI one).Nodup) (n2 : (keysI other).Nodup) (k : Int) : co (sumF one other) k = co one k + co other k := by
  unfold sumF
  rw [co_filter (addF_nd other n1), co_add k other one n2]
theorem co_puts (a c k : Int) : ∀ (other f : PI), (keysI other).Nodup → co (putsF f a c other) k = co f k + c * co other (k - a) := by
  intro other
  induction other with
  | nil => intro f _; show co f k = co f k + c * 0; omega
  | cons v other ih =>
    intro f nd
    have nd' : v.1 ∉ keysI other ∧ (keysI other).Nodup := List.nodup_cons.mp nd
    show co (putsF (putI f (a + v.1) (co f (a + v.1) + c * v.2)) a c other) k = _
    rw [ih _ nd'.2, co_put]
    have hc : co (v :: other) (k - a) = if v.1 = k - a then v.2 else co other (k - a) := by unfold co; rw [valI_cons]; split <;> rfl
    rw [hc]
    by_cases h : k = a + v.1
    · subst h
      rw [if_pos rfl, if_pos (by omega), show a + v.1 - a = v.1 by omega, co_none nd'.1]; omega
    · rw [if_neg h, if_neg (fun e => h (by omega))]
/-- times one term -/
theorem co_prod1 {one : PI} (n1 : (keysI one).Nodup) (a c k : Int) : co (prodF one [(a, c)]) k = co one (k - a) * c := by
  have h : ∀ (one f : PI), (keysI one).Nodup → co (one.foldl (fun f u => putsF f u.1 u.2 [(a, c)]) f) k = co f k + co one (k - a) * c := by
    intro one
    induction one with
    | nil => intro f _; show co f k = co f k + 0 * c; omega
    | cons u one ih =>
      intro f nd
      have nd' : u.1 ∉ keysI one ∧ (keysI one).Nodup := List.nodup_cons.mp nd
      show co (one.foldl _ (putsF f u.1 u.2 [(a, c)])) k = _
      rw [ih _ nd'.2, co_puts u.1 u.2 k [(a, c)] f (by simp [keysI])]
      have h1 : co (u :: one) (k - a) = if u.1 = k - a then u.2 else co one (k - a) := by unfold co; rw [valI_cons]; split <;> rfl
      have h2 : co [(a, c)] (k - u.1) = if a = k - u.1 then c else 0 := by unfold co; rw [valI_cons]; split <;> rfl
      rw [h1, h2]
      by_cases h : u.1 = k - a
      · rw [if_pos h, if_pos (by omega), ← h, co_none nd'.1]; omega
      · rw [if_neg h, if_neg (by omega)]; omega
  have := h one [] n1
  rw [co_nil] at this
  unfold prodF; rw [this]; omega
/-! ### told -/
theorem supp_mem {p : PI} (nd : (keysI p).Nodup) {k : Int} : k ∈ suppI p ↔ co p k ≠ 0 := by
  unfold suppI
  rw [List.mem_map]
  constructor
  · rintro ⟨z, hz, rfl⟩
    obtain ⟨h1, h2⟩ := List.mem_filter.mp hz
    rw [co_of_mem nd (show (z.1, z.2) ∈ p from h1)]
    exact of_decide_eq_true h2
  · intro h
    cases e : valI p k with
    | none => unfold co at h; rw [e] at h; exact absurd rfl h
    | some c =>
      have : co p k = c := by unfold co; rw [e]; rfl
      exact ⟨(k, c), List.mem_filter.mpr ⟨valI_at e, decide_eq_true (this ▸ h)⟩, rfl⟩
theorem supp_nd {p : PI} (nd : (keysI p).Nodup) : (suppI p).Nodup := filter_nd _ nd
theorem told_eq {p q : PI} (n1 : (keysI p).Nodup) (n2 : (keysI q).Nodup) (h : ∀ k, co p k = co q k) : toldF p = toldF q := by
  have hp : (suppI p).Perm (suppI q) := (List.perm_ext_iff_of_nodup (supp_nd n1) (supp_nd n2)).mpr fun k => by rw [supp_mem n1, supp_mem n2, h]
  have hs : sortI (suppI p) = sortI (suppI q) := rise_eq ((sortI_perm _).trans (hp.trans (sortI_perm _).symm)) (sortI_up _) (sortI_up _)
  have hc : coD p = coD q := by
    funext d
    cases d <;> first | rfl | (show PyData.int (co p _) = _; rw [h]; rfl)
  unfold toldF
  rw [hs, hc]
/-! what is told can be asked for equality -/
theorem depth_iL : ∀ (ns : List Int), PyData.depthAll (iL ns) = 0
  | [] => rfl
  | n :: ns => by
    show max 0 (PyData.depthAll (iL ns)) = 0
    rw [depth_iL ns]; rfl
theorem lay_iL' : ∀ (ns : List Int), PyData.canLayAll0 (iL ns) = true
  | [] => rfl
  | n :: ns => by
    show (true && PyData.canLayAll0 (iL ns)) = true
    rw [lay_iL' ns]; rfl
theorem coD_iL (m : PI) (lo : Int) (n : Nat) : (rg lo n).map (coD m) = iL ((List.range n).map fun (i : Nat) => co m (lo + (i : Int))) := by
  unfold rg iL
  rw [List.map_map, List.map_map]; rfl
theorem told_form (m : PI) : ∃ (lo : Int) (ns : List Int), toldF m = .tuple [.int lo, .tuple (iL ns)] := by
  unfold toldF
  split
  · exact ⟨0, [], rfl⟩
  · exact ⟨_, _, by rw [coD_iL]⟩
theorem told_shaped (m : PI) : PySem.SeqAt.shaped (toldF m) = true := by
  obtain ⟨lo, ns, e⟩ := told_form m
  rw [e]
  unfold PySem.SeqAt.shaped
  have h1 : (PyData.tuple [.int lo, .tuple (iL ns)]).canLay0 = true := by
    show (true && (PyData.canLayAll0 (iL ns) && true)) = true
    rw [lay_iL' ns]; rfl
  have h2 : (PyData.tuple [.int lo, .tuple (iL ns)]).depth = 2 := by
    show max 0 (max (PyData.depthAll (iL ns) + 1) 0) + 1 = 2
    rw [depth_iL ns]; rfl
  rw [h1, h2]; rfl
theorem told_lay (m : PI) : (toldF m).canLay0 = true := by
  obtain ⟨lo, ns, e⟩ := told_form m
  rw [e]
  show (true && (PyData.canLayAll0 (iL ns) && true)) = true
  rw [lay_iL' ns]; rfl
end TF
/-! Even rows read backwards; the polynomial by the row. -/
namespace TF
open L3
open PySem (PyData)
/-! ### rows and their matrices -/
def matF : List Int → (Int × Int) × (Int × Int)
  | [] => ((1, 0), (0, 1))
  | c :: cs => ((c * (matF cs).1.1 + (matF cs).2.1, c * (matF cs).1.2 + (matF cs).2.2), ((matF cs).1.1, (matF cs).1.2))
theorem mat_fold : ∀ (ns : List Int), fold1 ns = ((matF ns).1.1, (matF ns).2.1)
  | [] => rfl
  | c :: cs => by rw [fold1_cons, mat_fold cs]; rfl
theorem mat_snoc (c : Int) : ∀ (ns : List Int), matF (ns ++ [c]) = (((matF ns).1.1 * c + (matF ns).1.2, (matF ns).1.1), ((matF ns).2.1 * c + (matF ns).2.2, (matF ns).2.1))
  | [] => by show ((c * 1 + 0, c * 0 + 1), ((1 : Int), (0 : Int))) = ((1 * c + 0, 1), (0 * c + 1, 0)); rw [Int.mul_one, Int.one_mul, Int.mul_zero, Int.zero_mul]; rfl
  | x :: ns => by
    show ((x * (matF (ns ++ [c])).1.1 + (matF (ns ++ [c])).2.1, x * (matF (ns ++ [c])).1.2 + (matF (ns ++ [c])).2.2), ((matF (ns ++ [c])).1.1, (matF (ns ++ [c])).1.2)) = _
    rw [mat_snoc c ns]
    show _ = (((x * (matF ns).1.1 + (matF ns).2.1) * c + (x * (matF ns).1.2 + (matF ns).2.2), x * (matF ns).1.1 + (matF ns).2.1), ((matF ns).1.1 * c + (matF ns).1.2, (matF ns).1.1))
    simp only [Int.mul_add, Int.add_mul, Int.mul_assoc]
    congr 2
    omega
theorem mat_rev : ∀ (ns : List Int), matF ns.reverse = (((matF ns).1.1, (matF ns).2.1), ((matF ns).1.2, (matF ns).2.2))
  | [] => rfl
  | c :: cs => by
    rw [List.reverse_cons, mat_snoc, mat_rev cs]
    show _ = ((c * (matF cs).1.1 + (matF cs).2.1, (matF cs).1.1), (c * (matF cs).1.2 + (matF cs).2.2, (matF cs).1.2))
    simp only [Int.mul_comm]
def sgnN : Nat → Int
  | 0 => 1
  | n + 1 => -sgnN n
theorem sgn_even : ∀ (n : Nat), sgnN (2 * n) = 1
  | 0 => rfl
  | n + 1 => by show - -sgnN (2 * n) = 1; rw [Int.neg_neg, sgn_even n]
theorem sgn_of (n : Nat) : sgnN n = if n % 2 = 0 then 1 else -1 := by
  rcases Nat.mod_two_eq_zero_or_one n with h | h
  · rw [if_pos h]; obtain ⟨m, rfl⟩ : ∃ m, n = 2 * m := ⟨n / 2, by omega⟩; exact sgn_even m
  · rw [if_neg (by omega)]; obtain ⟨m, rfl⟩ : ∃ m, n = 2 * m + 1 := ⟨n / 2, by omega⟩
    show -sgnN (2 * m) = -1; rw [sgn_even]
theorem mat_det : ∀ (ns : List Int), (matF ns).1.1 * (matF ns).2.2 - (matF ns).1.2 * (matF ns).2.1 = sgnN ns.length
  | [] => rfl
  | c :: cs => by
    have ih := mat_det cs
    show (c * (matF cs).1.1 + (matF cs).2.1) * (matF cs).1.2 - (c * (matF cs).1.2 + (matF cs).2.2) * (matF cs).1.1 = -sgnN cs.length
    rw [← ih, Int.add_mul, Int.add_mul]
    have e1 : c * (matF cs).1.1 * (matF cs).1.2 = c * (matF cs).1.2 * (matF cs).1.1 := by rw [Int.mul_assoc, Int.mul_assoc, Int.mul_comm (matF cs).1.1]
    have e2 : (matF cs).2.1 * (matF cs).1.2 = (matF cs).1.2 * (matF cs).2.1 := Int.mul_comm ..
    have e3 : (matF cs).2.2 * (matF cs).1.1 = (matF cs).1.1 * (matF cs).2.2 := Int.mul_comm ..
    omega
/-- all numbers turned -/
theorem mat_neg : ∀ (ns : List Int), matF (ns.map fun x => -x) = ((sgnN ns.length * (matF ns).1.1, -(sgnN ns.length * (matF ns).1.2)), (-(sgnN ns.length * (matF ns).2.1), sgnN ns.length * (matF ns).2.2))
  | [] => rfl
  | c :: cs => by
    rw [List.map_cons, List.length_cons]
    show ((-c * (matF (cs.map fun x => -x)).1.1 + (matF (cs.map fun x => -x)).2.1, -c * (matF (cs.map fun x => -x)).1.2 + (matF (cs.map fun x => -x)).2.2), ((matF (cs.map fun x => -x)).1.1, (matF (cs.map fun x => -x)).1.2)) = _
    rw [mat_neg cs]
    show _ = ((-sgnN cs.length * (c * (matF cs).1.1 + (matF cs).2.1), -(-sgnN cs.length * (c * (matF cs).1.2 + (matF cs).2.2))), (-(-sgnN cs.length * (matF cs).1.1), -sgnN cs.length * (matF cs).1.2))
    generalize sgnN cs.length = s
    simp only [Int.neg_mul, Int.mul_neg, Int.neg_neg, Int.mul_add]
    rw [show c * (s * (matF cs).1.1) = s * (c * (matF cs).1.1) from Int.mul_left_comm .., show c * (s * (matF cs).1.2) = s * (c * (matF cs).1.2) from Int.mul_left_comm ..]
    congr 2
    · omega
/-- what the numbers of an even row make even -/
theorem mat_parity : ∀ (ns : List Int), (∀ x ∈ ns, x % 2 = 0) → (ns.length % 2 = 0 → (matF ns).1.1 % 2 = 1 ∧ (matF ns).1.2 % 2 = 0 ∧ (matF ns).2.1 % 2 = 0 ∧ (matF ns).2.2 % 2 = 1) ∧
    (ns.length % 2 = 1 → (matF ns).1.1 % 2 = 0 ∧ (matF ns).1.2 % 2 = 1 ∧ (matF ns).2.1 % 2 = 1 ∧ (matF ns).2.2 % 2 = 0)
  | [], _ => ⟨fun _ => ⟨rfl, rfl, rfl, rfl⟩, fun h => nomatch h⟩
  | c :: cs, h => by
    obtain ⟨i1, i2⟩ := mat_parity cs fun x hx => h x (List.mem_cons_of_mem _ hx)
    have hc := h c (List.mem_cons_self ..)
    obtain ⟨d, rfl⟩ : ∃ d, c = 2 * d := ⟨c / 2, by omega⟩
    have e1 : (matF (2 * d :: cs)).1.1 = 2 * (d * (matF cs).1.1) + (matF cs).2.1 := by show 2 * d * _ + _ = _; rw [Int.mul_assoc]
    have e2 : (matF (2 * d :: cs)).1.2 = 2 * (d * (matF cs).1.2) + (matF cs).2.2 := by show 2 * d * _ + _ = _; rw [Int.mul_assoc]
    have e3 : (matF (2 * d :: cs)).2.1 = (matF cs).1.1 := rfl
    have e4 : (matF (2 * d :: cs)).2.2 = (matF cs).1.2 := rfl
    rw [e1, e2, e3, e4, List.length_cons]
    constructor
    · intro hl
      obtain ⟨a1, a2, a3, a4⟩ := i2 (by omega)
      exact ⟨by omega, by omega, a1, a2⟩
    · intro hl
      obtain ⟨a1, a2, a3, a4⟩ := i1 (by omega)
      exact ⟨by omega, by omega, a1, a2⟩
/-! ### an even row is the only one of its fraction -/
theorem evPart_uniq {p e c : Int} (he : e ≠ 0) (ho : (p + e) % 2 = 1) (hc : c % 2 = 0) (h : (p - c * e).natAbs < e.natAbs) : evPart p e = c := by
  obtain ⟨r1, _⟩ := evPart_rest he ho
  have h2 := evPart_even p e
  have h3 : ((evPart p e - c) * e).natAbs < 2 * e.natAbs := by
    have : (evPart p e - c) * e = (p - c * e) - (p - evPart p e * e) := by rw [Int.sub_mul]; omega
    rw [this]; omega
  rw [Int.natAbs_mul] at h3
  have h4 : (evPart p e - c).natAbs < 2 := by
    rcases Nat.lt_or_ge (evPart p e - c).natAbs 2 with h | h
    · exact h
    · exfalso
      have := Nat.mul_le_mul_right e.natAbs h
      omega
  omega
theorem evF_uniq : ∀ (ns : List Int), (∀ x ∈ ns, x ≠ 0 ∧ x % 2 = 0) → (fold1 ns).2.natAbs < (fold1 ns).1.natAbs ∧ ((fold1 ns).1 + (fold1 ns).2) % 2 = 1 ∧ evF (fold1 ns).1 (fold1 ns).2 = ns
  | [], _ => ⟨by decide, rfl, rfl⟩
  | c :: cs, h => by
    obtain ⟨i1, i2, i3⟩ := evF_uniq cs fun x hx => h x (List.mem_cons_of_mem _ hx)
    obtain ⟨h0, he⟩ := h c (List.mem_cons_self ..)
    rw [fold1_cons]
    generalize hp : (fold1 cs).1 = p at *
    generalize hq : (fold1 cs).2 = q at *
    obtain ⟨d, rfl⟩ : ∃ d, c = 2 * d := ⟨c / 2, by omega⟩
    have ho : (2 * d * p + q + p) % 2 = 1 := by
      have : 2 * d * p = 2 * (d * p) := Int.mul_assoc ..
      omega
    have hpz : p ≠ 0 := by omega
    have hb : 2 * p.natAbs ≤ (2 * d * p).natAbs := by
      rw [Int.natAbs_mul]
      exact Nat.mul_le_mul_right _ (by omega)
    have ep : evPart (2 * d * p + q) p = 2 * d := evPart_uniq hpz ho he (by rw [show 2 * d * p + q - 2 * d * p = q by omega]; exact i1)
    refine ⟨by show p.natAbs < (2 * d * p + q).natAbs; omega, ho, ?_⟩
    show evF (2 * d * p + q) p = 2 * d :: cs
    rw [evF_pos hpz ho, ep, show 2 * d * p + q - 2 * d * p = q by omega, i3]
theorem evF_negp : ∀ (n : Nat) (p e : Int), e.natAbs < n → (p + e) % 2 = 1 → evF (-p) (-e) = evF p e
  | n + 1, p, e, hn, ho => by
    by_cases he : e = 0
    · subst he; rw [Int.neg_zero, evF_zero, evF_zero]
    · obtain ⟨r1, r2⟩ := evPart_rest he ho
      have ho' : (-p + -e) % 2 = 1 := by omega
      have hn' : -e ≠ 0 := by omega
      have ep : evPart (-p) (-e) = evPart p e := evPart_uniq hn' ho' (evPart_even p e) (by rw [Int.mul_neg]; omega)
      rw [evF_pos hn' ho', evF_pos he ho, ep, Int.mul_neg, show -p - -(evPart p e * e) = -(p - evPart p e * e) by omega, evF_negp n e _ (by omega) r2]
/-- a row of its fraction, but for a common sign -/
theorem evF_of {ns : List Int} {p e : Int} (h : ∀ x ∈ ns, x ≠ 0 ∧ x % 2 = 0) (hf : fold1 ns = (p, e) ∨ fold1 ns = (-p, -e)) : evF p e = ns := by
  obtain ⟨i1, i2, i3⟩ := evF_uniq ns h
  rcases hf with hf | hf
  · rw [hf] at i3; exact i3
  · rw [hf] at i1 i2 i3
    simp only at i1 i2 i3
    rw [evF_negp (e.natAbs + 1) p e (by omega) (by omega)] at i3
    exact i3
theorem all_rev {ns : List Int} (h : ∀ x ∈ ns, x ≠ 0 ∧ x % 2 = 0) : ∀ x ∈ ns.reverse, x ≠ 0 ∧ x % 2 = 0 := fun x hx => h x (List.mem_reverse.mp hx)
theorem all_neg {ns : List Int} (h : ∀ x ∈ ns, x ≠ 0 ∧ x % 2 = 0) : ∀ x ∈ ns.map (fun x => -x), x ≠ 0 ∧ x % 2 = 0 := fun x hx => by
  obtain ⟨y, hy, rfl⟩ := List.mem_map.mp hx
  obtain ⟨a, b⟩ := h y hy
  exact ⟨by omega, by omega⟩
theorem dvd_small {m x : Int} (h : m ∣ x) (hx : x.natAbs < m.natAbs) : x = 0 := by
  obtain ⟨k, rfl⟩ := h
  rw [Int.natAbs_mul] at hx
  by_cases hk : k = 0
  · subst hk; exact Int.mul_zero _
  · have : m.natAbs * 1 ≤ m.natAbs * k.natAbs := Nat.mul_le_mul_left _ (by omega)
    omega
/-- odd p: the even row of an inverse is the row backwards, turned -/
theorem evF_inv_odd {p e e2 : Int} (hp : 1 ≤ p) (h2 : p % 2 = 1) (he : e.natAbs < p.natAbs) (he2 : e2.natAbs < p.natAbs) (ho : (p + e) % 2 = 1) (ho2 : (p + e2) % 2 = 1) (hg : Nat.gcd p.natAbs e.natAbs = 1) (hd : p ∣ e * e2 - 1) :
    evF p e2 = (evF p e).reverse.map fun x => -x := by
  have parts := evF_parts (e.natAbs + 1) p e (by omega) ho he
  have hall : ∀ x ∈ evF p e, x ≠ 0 ∧ x % 2 = 0 := fun x hx => ⟨(parts x hx).1, (parts x hx).2.1⟩
  have par := evF_parity (e.natAbs + 1) p e (by omega) ho
  have hfold := evF_fold (e.natAbs + 1) p e (by omega) ho hg
  generalize evF p e = ns at *
  have hl : ns.length % 2 = 0 := by omega
  have det := mat_det ns
  rw [sgn_of, if_pos hl] at det
  obtain ⟨m1, m2, m3, m4⟩ := (mat_parity ns fun x hx => (hall x hx).2).1 hl
  have hu := (evF_uniq _ (all_rev hall)).1
  rw [mat_fold, mat_rev] at hu
  simp only at hu
  rw [mat_fold] at hfold
  have hneg := mat_neg ns.reverse
  rw [List.length_reverse, sgn_of, if_pos hl, mat_rev] at hneg
  simp only [Int.one_mul] at hneg
  refine evF_of (all_neg (all_rev hall)) ?_
  rw [mat_fold, hneg]
  simp only
  generalize (matF ns).1.1 = a at *
  generalize (matF ns).1.2 = b at *
  generalize (matF ns).2.1 = c at *
  generalize (matF ns).2.2 = d at *
  rcases hfold with hf | hf
  · cases hf
    left
    have : e2 = -b := by
      have h1 : p ∣ e2 + b := by
        have e1 : (e2 + b) = (e2 + b) * (p * d - b * e) := by rw [det, Int.mul_one]
        have e3 : (e2 + b) * (p * d - b * e) = p * ((e2 + b) * d) - b * (e * e2 - 1) - b * (1 + b * e) := by
          simp only [Int.mul_sub, Int.add_mul, Int.mul_add, Int.mul_one, Int.mul_comm, Int.mul_left_comm, Int.mul_assoc]; omega
        have e4 : 1 + b * e = p * d := by omega
        rw [e1, e3, e4]
        refine Int.dvd_sub (Int.dvd_sub (Int.dvd_mul_right ..) (Int.dvd_trans hd (Int.dvd_mul_left ..))) ?_
        rw [Int.mul_left_comm]; exact Int.dvd_mul_right ..
      obtain ⟨k, hk⟩ := h1
      have hk2 : k.natAbs < 2 := by
        rcases Nat.lt_or_ge k.natAbs 2 with h | h
        · exact h
        · exfalso
          have q1 : (e2 + b).natAbs = p.natAbs * k.natAbs := by rw [hk, Int.natAbs_mul]
          have q2 := Nat.mul_le_mul_left p.natAbs h
          omega
      have : k = 0 ∨ k = 1 ∨ k = -1 := by omega
      rcases this with rfl | rfl | rfl
      · rw [Int.mul_zero] at hk; omega
      · rw [Int.mul_one] at hk; omega
      · rw [Int.mul_neg, Int.mul_one] at hk; omega
    rw [this]
  · have ha : a = -p := congrArg Prod.fst hf
    have hc : c = -e := congrArg Prod.snd hf
    subst ha hc
    right
    have : e2 = b := by
      have h1 : p ∣ e2 - b := by
        have e1 : (e2 - b) = (e2 - b) * (-p * d - b * -e) := by rw [det, Int.mul_one]
        have e3 : (e2 - b) * (-p * d - b * -e) = p * (-((e2 - b) * d)) + b * (e * e2 - 1) + b * (1 - b * e) := by
          simp only [Int.mul_sub, Int.sub_mul, Int.mul_neg, Int.neg_mul, Int.mul_one, Int.mul_comm, Int.mul_left_comm, Int.mul_assoc]; omega
        have e4 : 1 - b * e = p * (-d) := by
          rw [Int.mul_neg] at det ⊢; rw [Int.neg_mul] at det; omega
        rw [e1, e3, e4]
        refine Int.dvd_add (Int.dvd_add (Int.dvd_mul_right ..) (Int.dvd_trans hd (Int.dvd_mul_left ..))) ?_
        rw [Int.mul_left_comm]; exact Int.dvd_mul_right ..
      obtain ⟨k, hk⟩ := h1
      have hk2 : k.natAbs < 2 := by
        rcases Nat.lt_or_ge k.natAbs 2 with h | h
        · exact h
        · exfalso
          have q1 : (e2 - b).natAbs = p.natAbs * k.natAbs := by rw [hk, Int.natAbs_mul]
          have q2 := Nat.mul_le_mul_left p.natAbs h
          omega
      have : k = 0 ∨ k = 1 ∨ k = -1 := by omega
      rcases this with rfl | rfl | rfl
      · rw [Int.mul_zero] at hk; omega
      · rw [Int.mul_one] at hk; omega
      · rw [Int.mul_neg, Int.mul_one] at hk; omega
    rw [this]
/-- even p: the even row of an inverse modulo 2 p is the row backwards -/
theorem evF_inv_even {p e e2 : Int} (hp : 1 ≤ p) (h2 : p % 2 = 0) (he : e.natAbs < p.natAbs) (he2 : e2.natAbs < p.natAbs) (ho : (p + e) % 2 = 1) (hg : Nat.gcd p.natAbs e.natAbs = 1) (hd : 2 * p ∣ e * e2 - 1) :
    evF p e2 = (evF p e).reverse := by
  have parts := evF_parts (e.natAbs + 1) p e (by omega) ho he
  have hall : ∀ x ∈ evF p e, x ≠ 0 ∧ x % 2 = 0 := fun x hx => ⟨(parts x hx).1, (parts x hx).2.1⟩
  have par := evF_parity (e.natAbs + 1) p e (by omega) ho
  have hfold := evF_fold (e.natAbs + 1) p e (by omega) ho hg
  generalize evF p e = ns at *
  have hl : ns.length % 2 = 1 := by omega
  have det := mat_det ns
  rw [sgn_of, if_neg (by omega)] at det
  obtain ⟨m1, m2, m3, m4⟩ := (mat_parity ns fun x hx => (hall x hx).2).2 hl
  have hu := (evF_uniq _ (all_rev hall)).1
  rw [mat_fold, mat_rev] at hu
  simp only at hu
  rw [mat_fold] at hfold
  refine evF_of (all_rev hall) ?_
  rw [mat_fold, mat_rev]
  simp only
  generalize (matF ns).1.1 = a at *
  generalize (matF ns).1.2 = b at *
  generalize (matF ns).2.1 = c at *
  generalize (matF ns).2.2 = d at *
  obtain ⟨f, rfl⟩ : ∃ f, d = 2 * f := ⟨d / 2, by omega⟩
  rcases hfold with hf | hf
  · cases hf
    left
    have : e2 = b := by
      have h1 : 2 * p ∣ e2 - b := by
        have e1 : e2 - b = (e2 - b) * (b * e - p * (2 * f)) := by rw [show b * e - p * (2 * f) = 1 by omega, Int.mul_one]
        have e3 : (e2 - b) * (b * e - p * (2 * f)) = b * (e * e2 - 1) + b * (1 - b * e) - (2 * p) * ((e2 - b) * f) := by
          simp only [Int.mul_sub, Int.sub_mul, Int.mul_one, Int.mul_comm, Int.mul_left_comm, Int.mul_assoc]; omega
        have e4 : 1 - b * e = 2 * p * (-f) := by
          rw [Int.mul_neg, Int.mul_assoc, show p * f = f * p from Int.mul_comm ..] ; rw [show p * (2 * f) = 2 * (f * p) by rw [Int.mul_left_comm, Int.mul_comm p]] at det; omega
        rw [e1, e3, e4]
        refine Int.dvd_sub (Int.dvd_add (Int.dvd_trans hd (Int.dvd_mul_left ..)) ?_) (Int.dvd_mul_right ..)
        rw [Int.mul_left_comm]; exact Int.dvd_mul_right ..
      have := dvd_small h1 (by omega)
      omega
    rw [this]
  · have ha : a = -p := congrArg Prod.fst hf
    have hc : c = -e := congrArg Prod.snd hf
    subst ha hc
    right
    have : e2 = -b := by
      have h1 : 2 * p ∣ e2 + b := by
        have det' : p * (2 * f) - b * e = 1 := by rw [Int.neg_mul, Int.mul_neg] at det; omega
        have e1 : e2 + b = (e2 + b) * (p * (2 * f) - b * e) := by rw [det', Int.mul_one]
        have e3 : (e2 + b) * (p * (2 * f) - b * e) = (2 * p) * ((e2 + b) * f) - b * (e * e2 - 1) - b * (1 + b * e) := by
          simp only [Int.mul_sub, Int.add_mul, Int.mul_add, Int.mul_one, Int.mul_comm, Int.mul_left_comm, Int.mul_assoc]; omega
        have e4 : 1 + b * e = 2 * p * f := by
          rw [Int.mul_assoc, show p * f = f * p from Int.mul_comm ..]; rw [show p * (2 * f) = 2 * (f * p) by rw [Int.mul_left_comm, Int.mul_comm p]] at det'; omega
        rw [e1, e3, e4]
        refine Int.dvd_sub (Int.dvd_sub (Int.dvd_mul_right ..) (Int.dvd_trans hd (Int.dvd_mul_left ..))) ?_
        rw [Int.mul_left_comm]; exact Int.dvd_mul_right ..
      have := dvd_small h1 (by omega)
      omega
    rw [this, Int.neg_neg]
end TF
/-! Conway's polynomial by an even row: read backwards it is the same. -/
namespace TF
open L3
open PySem (PyData)
abbrev Po := Int → Int
def zP : Po := fun _ => 0
def oneP : Po := fun k => if k = 0 then 1 else 0
def addP (f g : Po) : Po := fun k => f k + g k
/-- times b z -/
def shP (b : Int) (f : Po) : Po := fun k => f (k - 1) * b
def goP : Po → Po → List Int → Po
  | _, h, [] => h
  | l, h, b :: bs => goP h (addP l (shP b h)) bs
theorem addP_zero (f : Po) : addP zP f = f := by funext k; show 0 + f k = f k; omega
theorem goP_add : ∀ (bs : List Int) (l h l2 h2 : Po), goP (addP l l2) (addP h h2) bs = addP (goP l h bs) (goP l2 h2 bs)
  | [], _, _, _, _ => rfl
  | b :: bs, l, h, l2, h2 => by
    show goP (addP h h2) (addP (addP l l2) (shP b (addP h h2))) bs = addP (goP h (addP l (shP b h)) bs) (goP h2 (addP l2 (shP b h2)) bs)
    rw [← goP_add bs]
    congr 1
    funext k
    show l k + l2 k + (h (k - 1) + h2 (k - 1)) * b = l k + h (k - 1) * b + (l2 k + h2 (k - 1) * b)
    rw [Int.add_mul]; omega
theorem goP_sh (c : Int) : ∀ (bs : List Int) (l h : Po), goP (shP c l) (shP c h) bs = shP c (goP l h bs)
  | [], _, _ => rfl
  | b :: bs, l, h => by
    show goP (shP c h) (addP (shP c l) (shP b (shP c h))) bs = shP c (goP h (addP l (shP b h)) bs)
    rw [← goP_sh c bs]
    congr 1
    funext k
    show l (k - 1) * c + h (k - 1 - 1) * c * b = (l (k - 1) + h (k - 1 - 1) * b) * c
    rw [Int.add_mul, Int.mul_assoc, Int.mul_assoc, Int.mul_comm c b]
theorem shP_zero (c : Int) : shP c zP = zP := by funext k; show 0 * c = 0; omega
/-- from the right -/
def rP : List Int → Po × Po
  | [] => (oneP, zP)
  | b :: bs => (addP (shP b (rP bs).1) (rP bs).2, (rP bs).1)
theorem addP_comm (f g : Po) : addP f g = addP g f := by funext k; show f k + g k = g k + f k; omega
theorem goP_r : ∀ (bs : List Int), goP zP oneP bs = (rP bs).1 ∧ goP oneP zP bs = (rP bs).2
  | [] => ⟨rfl, rfl⟩
  | b :: bs => by
    obtain ⟨i1, i2⟩ := goP_r bs
    constructor
    · show goP oneP (addP zP (shP b oneP)) bs = addP (shP b (rP bs).1) (rP bs).2
      have := goP_add bs zP (shP b oneP) oneP zP
      rw [addP_zero, addP_comm (shP b oneP) zP] at this
      rw [this, i2, ← i1, ← goP_sh b, shP_zero]
    · show goP zP (addP oneP (shP b zP)) bs = (rP bs).1
      rw [shP_zero, addP_comm, addP_zero, i1]
/-- the pair behind a row -/
def goP2 : Po → Po → List Int → Po × Po
  | l, h, [] => (l, h)
  | l, h, b :: bs => goP2 h (addP l (shP b h)) bs
theorem goP2_snd : ∀ (bs : List Int) (l h : Po), (goP2 l h bs).2 = goP l h bs
  | [], _, _ => rfl
  | b :: bs, l, h => goP2_snd bs _ _
theorem goP2_snoc (b : Int) : ∀ (bs : List Int) (l h : Po), goP2 l h (bs ++ [b]) = ((goP2 l h bs).2, addP (goP2 l h bs).1 (shP b (goP2 l h bs).2))
  | [], _, _ => rfl
  | c :: bs, l, h => goP2_snoc b bs _ _
theorem snocRec {motive : List Int → Prop} (h0 : motive []) (h1 : ∀ l x, motive l → motive (l ++ [x])) (l : List Int) : motive l := by
  have : ∀ (n : Nat) (l : List Int), l.length = n → motive l := by
    intro n
    induction n with
    | zero => intro l hl; rw [List.length_eq_zero_iff.mp hl]; exact h0
    | succ n ih =>
      intro l hl
      rcases List.eq_nil_or_concat l with rfl | ⟨l', x, rfl⟩
      · exact h0
      · rw [List.concat_eq_append] at hl ⊢
        exact h1 l' x (ih l' (by rw [List.length_append] at hl; simpa using hl))
  exact this _ l rfl
theorem goP2_rev (bs : List Int) : goP2 zP oneP bs = ((rP bs.reverse).2, (rP bs.reverse).1) := by
  induction bs using snocRec with
  | h0 => rfl
  | h1 l x ih =>
    rw [goP2_snoc, ih, List.reverse_append]
    show ((rP l.reverse).1, addP (rP l.reverse).2 (shP x (rP l.reverse).1)) = ((rP l.reverse).1, addP (shP x (rP l.reverse).1) (rP l.reverse).2)
    rw [addP_comm]
theorem goP_rev (bs : List Int) : goP zP oneP bs.reverse = goP zP oneP bs := by
  rw [← goP2_snd bs, goP2_rev, (goP_r _).1]
/-! ### the numbers of a row -/
def bsF : Int → List Int → List Int
  | _, [] => []
  | s, x :: xs => x / 2 * s :: bsF (-s) xs
theorem bsF_snoc (y : Int) : ∀ (xs : List Int) (s : Int), bsF s (xs ++ [y]) = bsF s xs ++ [y / 2 * (s * sgnN xs.length)]
  | [], s => by show [y / 2 * s] = [y / 2 * (s * 1)]; rw [Int.mul_one]
  | x :: xs, s => by
    show x / 2 * s :: bsF (-s) (xs ++ [y]) = x / 2 * s :: (bsF (-s) xs ++ [y / 2 * (s * -sgnN xs.length)])
    rw [bsF_snoc y xs, Int.mul_neg, Int.neg_mul]
theorem bsF_rev (xs : List Int) : ∀ s, (bsF s xs).reverse = bsF (s * sgnN xs.length * -1) xs.reverse := by
  induction xs using snocRec with
  | h0 => intro s; rfl
  | h1 l x ih =>
    intro s
    rw [bsF_snoc, List.reverse_append, List.reverse_append, List.length_append]
    show x / 2 * (s * sgnN l.length) :: (bsF s l).reverse = x / 2 * (s * -sgnN l.length * -1) :: bsF (-(s * -sgnN l.length * -1)) l.reverse
    rw [ih s, show s * -sgnN l.length * -1 = s * sgnN l.length by rw [Int.mul_neg, Int.mul_neg, Int.mul_one, Int.neg_neg], Int.mul_neg, Int.mul_one]
theorem bsF_neg : ∀ (xs : List Int) (s : Int), (∀ x ∈ xs, x % 2 = 0) → bsF s (xs.map fun x => -x) = bsF (-s) xs
  | [], _, _ => rfl
  | x :: xs, s, h => by
    have hx := h x (List.mem_cons_self ..)
    show -x / 2 * s :: bsF (-s) (xs.map fun x => -x) = x / 2 * -s :: bsF (- -s) xs
    rw [bsF_neg xs _ fun y hy => h y (List.mem_cons_of_mem _ hy), show -x / 2 = -(x / 2) by omega, Int.neg_mul, Int.mul_neg]
/-! ### the program's way -/
def byStep (k : Nat) (x : Int) : Int := x / 2 * (if (k : Int) % 2 = 0 then -1 else 1)
def byGo : Nat → PI → PI → List Int → PI
  | _, _, here, [] => here
  | k, last, here, x :: xs => byGo (k + 1) here (sumF last (prodF here [(1, byStep k x)])) xs
def byRowF (row : List Int) : PI := byGo 0 [] [(0, 1)] row
structure OkP (n : Nat) (p : PI) : Prop where
  nd : (keysI p).Nodup
  ks : ∀ k ∈ keysI p, 0 ≤ k ∧ k ≤ n
theorem addF_keys {k : Int} : ∀ (other one : PI), k ∈ keysI (addF one other) → k ∈ keysI one ∨ k ∈ keysI other := by
  intro other
  induction other with
  | nil => intro one h; exact .inl h
  | cons v other ih =>
    intro one h
    rcases ih _ h with h | h
    · rw [putI_keys] at h
      split at h
      · exact .inl h
      · rcases List.mem_append.mp h with h | h
        · exact .inl h
        · rw [List.mem_singleton.mp h]; exact .inr (List.mem_cons_self ..)
    · exact .inr (List.mem_cons_of_mem _ h)
theorem putsF_keys {k a c : Int} : ∀ (other f : PI), k ∈ keysI (putsF f a c other) → k ∈ keysI f ∨ k - a ∈ keysI other := by
  intro other
  induction other with
  | nil => intro f h; exact .inl h
  | cons v other ih =>
    intro f h
    rcases ih _ h with h | h
    · rw [putI_keys] at h
      split at h
      · exact .inl h
      · rcases List.mem_append.mp h with h | h
        · exact .inl h
        · rw [List.mem_singleton.mp h, show a + v.1 - a = v.1 by omega]; exact .inr (List.mem_cons_self ..)
    · exact .inr (List.mem_cons_of_mem _ h)
theorem prodF_keys {k : Int} {one other : PI} (h : k ∈ keysI (prodF one other)) : ∃ i ∈ keysI one, k - i ∈ keysI other := by
  have : ∀ (one f : PI), k ∈ keysI (one.foldl (fun f u => putsF f u.1 u.2 other) f) → k ∈ keysI f ∨ ∃ i ∈ keysI one, k - i ∈ keysI other := by
    intro one
    induction one with
    | nil => intro f h; exact .inl h
    | cons u one ih =>
      intro f h
      rcases ih _ h with h | ⟨i, hi, h⟩
      · rcases putsF_keys _ _ h with h | h
        · exact .inl h
        · exact .inr ⟨u.1, List.mem_cons_self .., h⟩
      · exact .inr ⟨i, List.mem_cons_of_mem _ hi, h⟩
  rcases this one [] h with h | h
  · cases h
  · exact h
theorem filter_keys {k : Int} {p : PI} {q : Int × Int → Bool} (h : k ∈ keysI (p.filter q)) : k ∈ keysI p := by
  obtain ⟨z, hz, rfl⟩ := List.mem_map.mp h
  exact List.mem_map.mpr ⟨z, (List.mem_filter.mp hz).1, rfl⟩
theorem okP_step {n : Nat} {last here : PI} (h1 : OkP n last) (h2 : OkP n here) (c : Int) : OkP (n + 1) (sumF last (prodF here [(1, c)])) := by
  refine ⟨sumF_nd h1.nd, fun k hk => ?_⟩
  unfold sumF at hk
  rcases addF_keys _ _ (filter_keys hk) with h | h
  · have := h1.ks k h; omega
  · obtain ⟨i, hi, h⟩ := prodF_keys h
    have := h2.ks i hi
    have : k - i = 1 := by simpa [keysI] using h
    omega
theorem nd_len : ∀ {l m : List Int}, l.Nodup → (∀ x ∈ l, x ∈ m) → l.length ≤ m.length
  | [], _, _, _ => Nat.zero_le _
  | x :: l, m, hn, h => by
    obtain ⟨h1, h2⟩ := List.nodup_cons.mp hn
    have hx := h x (List.mem_cons_self ..)
    have := nd_len (m := m.erase x) h2 fun y hy => (List.mem_erase_of_ne (fun e => h1 (by rw [← e]; exact hy))).mpr (h y (List.mem_cons_of_mem _ hy))
    rw [List.length_erase_of_mem hx] at this
    have : 0 < m.length := List.length_pos_of_mem hx
    rw [List.length_cons]; omega
theorem okP_len {n : Nat} {p : PI} (h : OkP n p) : p.length ≤ n + 1 := by
  have := nd_len (l := keysI p) (m := (List.range (n + 1)).map fun (i : Nat) => (i : Int)) h.nd fun x hx => by
    have := h.ks x hx
    exact List.mem_map.mpr ⟨x.toNat, List.mem_range.mpr (by omega), by omega⟩
  rw [List.length_map, List.length_range] at this
  unfold keysI at this
  rw [List.length_map] at this
  exact this
theorem okP_up {n m : Nat} {p : PI} (h : OkP n p) (hm : n ≤ m) : OkP m p := ⟨h.nd, fun k hk => by have := h.ks k hk; omega⟩
theorem byGo_ok : ∀ (row : List Int) (k n : Nat) (last here : PI), OkP n last → OkP n here → OkP (n + row.length) (byGo k last here row)
  | [], _, _, _, _, _, h => h
  | x :: row, k, n, last, here, h1, h2 => by
    have := byGo_ok row (k + 1) (n + 1) here _ (okP_up h2 (by omega)) (okP_step h1 h2 (byStep k x))
    rw [List.length_cons, show n + (row.length + 1) = n + 1 + row.length by omega]
    exact this
theorem ok_nil {n : Nat} : OkP n [] := ⟨.nil, fun _ h => nomatch h⟩
theorem ok_one {n : Nat} : OkP n [(0, 1)] := ⟨by simp [keysI], fun k hk => by
  have : k = 0 := by simpa [keysI] using hk
  omega⟩
theorem byRow_ok (row : List Int) : OkP row.length (byRowF row) := by
  have := byGo_ok row 0 0 [] [(0, 1)] ok_nil ok_one
  rw [Nat.zero_add] at this
  exact this
theorem byGo_co : ∀ (row : List Int) (k n : Nat) (last here : PI), OkP n last → OkP n here → (fun j => co (byGo k last here row) j) = goP (fun j => co last j) (fun j => co here j) (bsF (if (k : Int) % 2 = 0 then -1 else 1) row)
  | [], _, _, _, _, _, _ => rfl
  | x :: row, k, n, last, here, h1, h2 => by
    show (fun j => co (byGo (k + 1) here (sumF last (prodF here [(1, byStep k x)])) row) j) = goP (fun j => co here j) (addP (fun j => co last j) (shP (byStep k x) fun j => co here j)) (bsF (-(if (k : Int) % 2 = 0 then -1 else 1)) row)
    rw [byGo_co row (k + 1) (n + 1) here _ (okP_up h2 (by omega)) (okP_step h1 h2 (byStep k x))]
    have e1 : (if ((k + 1 : Nat) : Int) % 2 = 0 then (-1 : Int) else 1) = -(if (k : Int) % 2 = 0 then -1 else 1) := by
      by_cases h : (k : Int) % 2 = 0
      · rw [if_pos h, if_neg (by omega)]; rfl
      · rw [if_neg h, if_pos (by omega)]
    have e2 : (fun j => co (sumF last (prodF here [(1, byStep k x)])) j) = addP (fun j => co last j) (shP (byStep k x) fun j => co here j) := by
      funext j
      rw [co_sum h1.nd (prodF_nd _ _), co_prod1 h2.nd]; rfl
    rw [e1, e2]
theorem byRow_co (row : List Int) : (fun j => co (byRowF row) j) = goP zP oneP (bsF (-1) row) := by
  have := byGo_co row 0 0 [] [(0, 1)] ok_nil ok_one
  unfold byRowF
  rw [this]
  have e1 : (fun j => co ([] : PI) j) = zP := rfl
  have e2 : (fun j => co [((0 : Int), (1 : Int))] j) = oneP := by
    funext j
    unfold co oneP
    rw [valI_cons]
    by_cases h : j = 0
    · subst h; rfl
    · rw [if_neg (fun e => h e.symm), if_neg h]; rfl
  rw [e1, e2]; rfl
theorem told_row {r1 r2 : List Int} (h : goP zP oneP (bsF (-1) r1) = goP zP oneP (bsF (-1) r2)) : toldF (byRowF r1) = toldF (byRowF r2) :=
  told_eq (byRow_ok r1).nd (byRow_ok r2).nd fun k => by
    have := (byRow_co r1).trans (h.trans (byRow_co r2).symm)
    exact congrFun this k
/-- two signed fractions of one directed link have one polynomial -/
theorem directed_told {p e e2 : Int} (hp : 1 ≤ p) (he : e.natAbs < p.natAbs) (he2 : e2.natAbs < p.natAbs) (ho : (p + e) % 2 = 1) (ho2 : (p + e2) % 2 = 1) (hg : Nat.gcd p.natAbs e.natAbs = 1)
    (hd : (if p % 2 = 1 then p else 2 * p) ∣ e - e2 ∨ (if p % 2 = 1 then p else 2 * p) ∣ e * e2 - 1) : toldF (byRowF (evF p e)) = toldF (byRowF (evF p e2)) := by
  by_cases h2 : p % 2 = 1
  · rw [if_pos h2] at hd
    rcases hd with hd | hd
    · have : e = e2 := by
        obtain ⟨k, hk⟩ := hd
        have hk2 : k.natAbs < 2 := by
          rcases Nat.lt_or_ge k.natAbs 2 with h | h
          · exact h
          · exfalso
            have q1 : (e - e2).natAbs = p.natAbs * k.natAbs := by rw [hk, Int.natAbs_mul]
            have q2 := Nat.mul_le_mul_left p.natAbs h
            omega
        have : k = 0 ∨ k = 1 ∨ k = -1 := by omega
        rcases this with rfl | rfl | rfl
        · rw [Int.mul_zero] at hk; omega
        · rw [Int.mul_one] at hk; omega
        · rw [Int.mul_neg, Int.mul_one] at hk; omega
      rw [this]
    · rw [evF_inv_odd hp h2 he he2 ho ho2 hg hd]
      have parts := evF_parts (e.natAbs + 1) p e (by omega) ho he
      have par := evF_parity (e.natAbs + 1) p e (by omega) ho
      refine told_row ?_
      rw [bsF_neg _ _ fun x hx => (parts x (List.mem_reverse.mp hx)).2.1, ← goP_rev, bsF_rev, sgn_of, if_pos (by omega)]; rfl
  · rw [if_neg h2] at hd
    rcases hd with hd | hd
    · have := dvd_small hd (by omega)
      rw [show e = e2 by omega]
    · rw [evF_inv_even hp (by omega) he he2 ho hg hd]
      have par := evF_parity (e.natAbs + 1) p e (by omega) ho
      refine told_row ?_
      rw [← goP_rev, bsF_rev, sgn_of, if_neg (by omega)]; rfl
end TF
namespace K71
open PySem PySem.Spec PyProof.Rows L2 L3
/-! ### the text by its places -/
def topAt (i : Nat) : Stmt := PySem.Challenge.pw_knotproved_k71_whole_directed_two_bridge.main.body.getD i (.Pass ⟨0, 0, 0, 0⟩)
abbrev s_is_whole : Stmt := topAt 4
theorem sc_is_whole : FnScope ["value"] ["value"] (defScope s_is_whole) := ⟨rfl, rfl, rfl, by decide +kernel, rfl, by decide +kernel, by decide +kernel⟩
abbrev s_check_signed : Stmt := topAt 9
theorem sc_check_signed : FnScope ["p", "e"] ["p", "e"] (defScope s_check_signed) := ⟨rfl, rfl, rfl, by decide +kernel, rfl, by decide +kernel, by decide +kernel⟩
abbrev s_same_directed : Stmt := topAt 12
theorem sc_same_directed : FnScope ["p", "e", "p2", "e2"] ["p", "e", "p2", "e2"] (defScope s_same_directed) := ⟨rfl, rfl, rfl, by decide +kernel, rfl, by decide +kernel, by decide +kernel⟩
abbrev s__law_pool : Stmt := topAt 14
theorem sc__law_pool : FnScope ["script", "cell"] ["script"] (defScope s__law_pool) := ⟨rfl, rfl, rfl, by decide +kernel, rfl, by decide +kernel, by decide +kernel⟩
abbrev s__law_take : Stmt := topAt 15
theorem sc__law_take : FnScope ["pool", "many", "digit", "cell", "mixed"] ["pool", "many"] (defScope s__law_take) := ⟨rfl, rfl, rfl, by decide +kernel, rfl, by decide +kernel, by decide +kernel⟩
abbrev s__law_pick : Stmt := topAt 16
theorem sc__law_pick : FnScope ["pool", "rows"] ["pool", "rows"] (defScope s__law_pick) := ⟨rfl, rfl, rfl, by decide +kernel, rfl, by decide +kernel, by decide +kernel⟩
abbrev s__law_is_integer : Stmt := topAt 17
theorem sc__law_is_integer : FnScope ["actual"] ["actual"] (defScope s__law_is_integer) := ⟨rfl, rfl, rfl, by decide +kernel, rfl, by decide +kernel, by decide +kernel⟩
abbrev s__law_same : Stmt := topAt 18
theorem sc__law_same : FnScope ["actual", "due", "k"] ["actual", "due"] (defScope s__law_same) := ⟨rfl, rfl, rfl, by decide +kernel, rfl, by decide +kernel, by decide +kernel⟩
abbrev s__law_common : Stmt := topAt 19
theorem sc__law_common : FnScope ["one", "other", "turn"] ["one", "other"] (defScope s__law_common) := ⟨rfl, rfl, rfl, by decide +kernel, rfl, by decide +kernel, by decide +kernel⟩
abbrev s__law_put : Stmt := topAt 20
theorem sc__law_put : FnScope ["found", "power", "number"] ["found", "power", "number"] (defScope s__law_put) := ⟨rfl, rfl, rfl, by decide +kernel, rfl, by decide +kernel, by decide +kernel⟩
abbrev s__law_told : Stmt := topAt 21
theorem sc__law_told : FnScope ["found", "powers", "power"] ["found"] (defScope s__law_told) := ⟨rfl, rfl, rfl, by decide +kernel, rfl, by decide +kernel, by decide +kernel⟩
abbrev s__law_product : Stmt := topAt 22
theorem sc__law_product : FnScope ["one", "other", "found", "power", "more"] ["one", "other"] (defScope s__law_product) := ⟨rfl, rfl, rfl, by decide +kernel, rfl, by decide +kernel, by decide +kernel⟩
abbrev s__law_sum_of : Stmt := topAt 23
theorem sc__law_sum_of : FnScope ["one", "other", "found", "power"] ["one", "other"] (defScope s__law_sum_of) := ⟨rfl, rfl, rfl, by decide +kernel, rfl, by decide +kernel, by decide +kernel⟩
abbrev s__law_even : Stmt := topAt 24
theorem sc__law_even : FnScope ["p", "e", "found", "turn", "best", "low", "part"] ["p", "e"] (defScope s__law_even) := ⟨rfl, rfl, rfl, by decide +kernel, rfl, by decide +kernel, by decide +kernel⟩
abbrev s__law_pair : Stmt := topAt 25
theorem sc__law_pair : FnScope ["pool", "most", "p", "some", "q"] ["pool", "most"] (defScope s__law_pair) := ⟨rfl, rfl, rfl, by decide +kernel, rfl, by decide +kernel, by decide +kernel⟩
abbrev s__law_fault : Stmt := topAt 26
theorem sc__law_fault : FnScope ["one", "other", "wrong"] ["one", "other"] (defScope s__law_fault) := ⟨rfl, rfl, rfl, by decide +kernel, rfl, by decide +kernel, by decide +kernel⟩
abbrev s__law_due : Stmt := topAt 27
theorem sc__law_due : FnScope ["one", "other", "p", "e", "k"] ["one", "other"] (defScope s__law_due) := ⟨rfl, rfl, rfl, by decide +kernel, rfl, by decide +kernel, by decide +kernel⟩
abbrev s__law_by_row : Stmt := topAt 28
theorem sc__law_by_row : FnScope ["row", "last", "here", "k", "by"] ["row"] (defScope s__law_by_row) := ⟨rfl, rfl, rfl, by decide +kernel, rfl, by decide +kernel, by decide +kernel⟩
abbrev s__law_signed : Stmt := topAt 29
theorem sc__law_signed : FnScope ["pool", "most", "p", "q"] ["pool", "most"] (defScope s__law_signed) := ⟨rfl, rfl, rfl, by decide +kernel, rfl, by decide +kernel, by decide +kernel⟩
abbrev s__law_so : Stmt := topAt 30
theorem sc__law_so : FnScope ["one", "other", "due", "here", "there"] ["one", "other"] (defScope s__law_so) := ⟨rfl, rfl, rfl, by decide +kernel, rfl, by decide +kernel, by decide +kernel⟩
abbrev s__law_always : Stmt := topAt 31
theorem sc__law_always : FnScope ["pairs", "due", "one", "other"] [] (defScope s__law_always) := ⟨rfl, rfl, rfl, by decide +kernel, rfl, by decide +kernel, by decide +kernel⟩
abbrev s_law : Stmt := topAt 32
theorem sc_law : FnScope ["script", "pool", "turn", "one", "p", "e", "kind", "other", "some", "great", "wrong", "r"] ["script"] (defScope s_law) := ⟨rfl, rfl, rfl, by decide +kernel, rfl, by decide +kernel, by decide +kernel⟩
structure Ad where
  f_is_whole : Addr
  d_is_whole : FuncData
  f_check_signed : Addr
  d_check_signed : FuncData
  f_same_directed : Addr
  d_same_directed : FuncData
  f__law_pool : Addr
  d__law_pool : FuncData
  f__law_take : Addr
  d__law_take : FuncData
  f__law_pick : Addr
  d__law_pick : FuncData
  f__law_is_integer : Addr
  d__law_is_integer : FuncData
  f__law_same : Addr
  d__law_same : FuncData
  f__law_common : Addr
  d__law_common : FuncData
  f__law_put : Addr
  d__law_put : FuncData
  f__law_told : Addr
  d__law_told : FuncData
  f__law_product : Addr
  d__law_product : FuncData
  f__law_sum_of : Addr
  d__law_sum_of : FuncData
  f__law_even : Addr
  d__law_even : FuncData
  f__law_pair : Addr
  d__law_pair : FuncData
  f__law_fault : Addr
  d__law_fault : FuncData
  f__law_due : Addr
  d__law_due : FuncData
  f__law_by_row : Addr
  d__law_by_row : FuncData
  f__law_signed : Addr
  d__law_signed : FuncData
  f__law_so : Addr
  d__law_so : FuncData
  f__law_always : Addr
  d__law_always : FuncData
  f_law : Addr
  d_law : FuncData
  C_KnotError : Addr
  C_BadSignedFraction : Addr
  C_TooLongRow : Addr
  C_TooGreatFraction : Addr
structure Txt (K : Fg) (mg : Str → Option Value) (A : Ad) : Prop where
  F_is_whole : Fun K "is_whole" "is_whole" s_is_whole A.f_is_whole A.d_is_whole
  m_is_whole : mg "is_whole" = some (.ref A.f_is_whole)
  b_is_whole : Binds K A.d_is_whole ["value"] []
  F_check_signed : Fun K "check_signed" "check_signed" s_check_signed A.f_check_signed A.d_check_signed
  m_check_signed : mg "check_signed" = some (.ref A.f_check_signed)
  b_check_signed : Binds K A.d_check_signed ["p", "e"] []
  F_same_directed : Fun K "same_directed" "same_directed" s_same_directed A.f_same_directed A.d_same_directed
  m_same_directed : mg "same_directed" = some (.ref A.f_same_directed)
  b_same_directed : Binds K A.d_same_directed ["p", "e", "p2", "e2"] []
  F__law_pool : Fun K "_law_pool" "_law_pool" s__law_pool A.f__law_pool A.d__law_pool
  m__law_pool : mg "_law_pool" = some (.ref A.f__law_pool)
  b__law_pool : Binds K A.d__law_pool ["script"] []
  F__law_take : Fun K "_law_take" "_law_take" s__law_take A.f__law_take A.d__law_take
  m__law_take : mg "_law_take" = some (.ref A.f__law_take)
  b__law_take : Binds K A.d__law_take ["pool", "many"] []
  F__law_pick : Fun K "_law_pick" "_law_pick" s__law_pick A.f__law_pick A.d__law_pick
  m__law_pick : mg "_law_pick" = some (.ref A.f__law_pick)
  b__law_pick : Binds K A.d__law_pick ["pool", "rows"] []
  F__law_is_integer : Fun K "_law_is_integer" "_law_is_integer" s__law_is_integer A.f__law_is_integer A.d__law_is_integer
  m__law_is_integer : mg "_law_is_integer" = some (.ref A.f__law_is_integer)
  b__law_is_integer : Binds K A.d__law_is_integer ["actual"] []
  F__law_same : Fun K "_law_same" "_law_same" s__law_same A.f__law_same A.d__law_same
  m__law_same : mg "_law_same" = some (.ref A.f__law_same)
  b__law_same : Binds K A.d__law_same ["actual", "due"] []
  F__law_common : Fun K "_law_common" "_law_common" s__law_common A.f__law_common A.d__law_common
  m__law_common : mg "_law_common" = some (.ref A.f__law_common)
  b__law_common : Binds K A.d__law_common ["one", "other"] []
  F__law_put : Fun K "_law_put" "_law_put" s__law_put A.f__law_put A.d__law_put
  m__law_put : mg "_law_put" = some (.ref A.f__law_put)
  b__law_put : Binds K A.d__law_put ["found", "power", "number"] []
  F__law_told : Fun K "_law_told" "_law_told" s__law_told A.f__law_told A.d__law_told
  m__law_told : mg "_law_told" = some (.ref A.f__law_told)
  b__law_told : Binds K A.d__law_told ["found"] []
  F__law_product : Fun K "_law_product" "_law_product" s__law_product A.f__law_product A.d__law_product
  m__law_product : mg "_law_product" = some (.ref A.f__law_product)
  b__law_product : Binds K A.d__law_product ["one", "other"] []
  F__law_sum_of : Fun K "_law_sum_of" "_law_sum_of" s__law_sum_of A.f__law_sum_of A.d__law_sum_of
  m__law_sum_of : mg "_law_sum_of" = some (.ref A.f__law_sum_of)
  b__law_sum_of : Binds K A.d__law_sum_of ["one", "other"] []
  F__law_even : Fun K "_law_even" "_law_even" s__law_even A.f__law_even A.d__law_even
  m__law_even : mg "_law_even" = some (.ref A.f__law_even)
  b__law_even : Binds K A.d__law_even ["p", "e"] []
  F__law_pair : Fun K "_law_pair" "_law_pair" s__law_pair A.f__law_pair A.d__law_pair
  m__law_pair : mg "_law_pair" = some (.ref A.f__law_pair)
  b__law_pair : Binds K A.d__law_pair ["pool", "most"] []
  F__law_fault : Fun K "_law_fault" "_law_fault" s__law_fault A.f__law_fault A.d__law_fault
  m__law_fault : mg "_law_fault" = some (.ref A.f__law_fault)
  b__law_fault : Binds K A.d__law_fault ["one", "other"] []
  F__law_due : Fun K "_law_due" "_law_due" s__law_due A.f__law_due A.d__law_due
  m__law_due : mg "_law_due" = some (.ref A.f__law_due)
  b__law_due : Binds K A.d__law_due ["one", "other"] []
  F__law_by_row : Fun K "_law_by_row" "_law_by_row" s__law_by_row A.f__law_by_row A.d__law_by_row
  m__law_by_row : mg "_law_by_row" = some (.ref A.f__law_by_row)
  b__law_by_row : Binds K A.d__law_by_row ["row"] []
  F__law_signed : Fun K "_law_signed" "_law_signed" s__law_signed A.f__law_signed A.d__law_signed
  m__law_signed : mg "_law_signed" = some (.ref A.f__law_signed)
  b__law_signed : Binds K A.d__law_signed ["pool", "most"] []
  F__law_so : Fun K "_law_so" "_law_so" s__law_so A.f__law_so A.d__law_so
  m__law_so : mg "_law_so" = some (.ref A.f__law_so)
  b__law_so : Binds K A.d__law_so ["one", "other"] []
  F__law_always : Fun K "_law_always" "_law_always" s__law_always A.f__law_always A.d__law_always
  m__law_always : mg "_law_always" = some (.ref A.f__law_always)
  b__law_always : Binds K A.d__law_always [] []
  F_law : Fun K "law" "law" s_law A.f_law A.d_law
  m_law : mg "law" = some (.ref A.f_law)
  m_KnotError : mg "KnotError" = some (.ref A.C_KnotError)
  m_BadSignedFraction : mg "BadSignedFraction" = some (.ref A.C_BadSignedFraction)
  c_BadSignedFraction : ExcF K A.C_BadSignedFraction
  m_TooLongRow : mg "TooLongRow" = some (.ref A.C_TooLongRow)
  m_TooGreatFraction : mg "TooGreatFraction" = some (.ref A.C_TooGreatFraction)
  k_BadSignedFraction_KnotError : PySem.W.kitOne K (.ref A.C_BadSignedFraction) (.ref A.C_KnotError) = some true
  e_BadSignedFraction_BadSignedFraction : PySem.W.subIn K (.ref A.C_BadSignedFraction) (.ref A.C_BadSignedFraction) = some true
  k_BadSignedFraction_TooLongRow : PySem.W.kitOne K (.ref A.C_BadSignedFraction) (.ref A.C_TooLongRow) = some false
  k_BadSignedFraction_TooGreatFraction : PySem.W.kitOne K (.ref A.C_BadSignedFraction) (.ref A.C_TooGreatFraction) = some false
  m_MOST_FRACTION : ∃ t, mg "MOST_FRACTION" = some (.int (1000000000) t)
  m_gcd : mg "gcd" = some (.builtin "math.gcd")
  z_abs : mg "abs" = none
  z_all : mg "all" = none
  z_bool : mg "bool" = none
  z_dict : mg "dict" = none
  z_int : mg "int" = none
  z_isinstance : mg "isinstance" = none
  z_len : mg "len" = none
  z_list : mg "list" = none
  z_range : mg "range" = none
  z_sorted : mg "sorted" = none
  z_str : mg "str" = none
  z_tuple : mg "tuple" = none
end K71
namespace K71
open PySem PySem.Spec PyProof.Rows L2 L3
section
variable {P : Program} {w : World} {K : Fg} {mg : Str → Option Value} {base : Heap} {Z : Ad}
def spTk (K : Fg) (c : Int → Prop) : Sp := fun vs H Q _ => ∃ (G : Hp) (a : Addr) (many : Int) (cl : Addr) (cells : List Int) (i r s : Int), vs = [.ref a, .int many] ∧ Same G H ∧ G a = none ∧ H a = some (.lst [.ref cl, .int i, .int r, .int s]) ∧ SqL K G cl (cells.map V.int) ∧
  (∀ x ∈ cells, 0 ≤ x) ∧ cells.length ≤ 63 ∧ 0 ≤ i ∧ 0 ≤ r ∧ 0 ≤ s ∧ s < 2147483647 ∧ c r ∧ 0 < many ∧ many < 1073741824 ∧
  ∀ d G1 H1, 0 ≤ d → d < many → Wp a G H G1 H1 → Pool K G1 H1 a → Q (.int d) H1
theorem fn_never {k : Nat} {f : Addr} {fd : FuncData} {ps : List Str} {CX : CXT} : FnOk P w K mg base CX k f fd ps (fun _ _ _ _ => False) :=
  ⟨fun _ _ _ _ h => h.elim, fun _ _ _ _ _ _ _ _ _ _ _ _ _ h => h.elim⟩
theorem sum_nn {x y z : Int} (hx : 0 ≤ x) (hy : 0 ≤ y) (hz : 0 ≤ z) : 0 ≤ x * 48271 + y * 69621 + z * 613 := by omega
theorem take_step (T : Txt K mg Z) {n : Nat} {c c' : Int → Prop} (hc : ∀ r, c' r → 0 < r ∨ ∀ x, 0 < x → c x) (ih : FnOk P w K mg base (L2N.CX P w) n Z.f__law_take Z.d__law_take ["pool", "many"] (spTk K c)) :
    FnOk P w K mg base (L2N.CX P w) (n + 1) Z.f__law_take Z.d__law_take ["pool", "many"] (spTk K c') := by
  refine okN T.F__law_take sc__law_take (fun vs H Q E h => by obtain ⟨_, _, _, _, _, _, _, _, rfl, _⟩ := h; rfl) (fun cdv A outer s H vs Q E hr h => ?_)
  have hr' : Room n (A.deeper (envOfC "_law_take" (defScope s__law_take) s.heap.objs.size Z.f__law_take cdv)) := hr
  refine ⟨_, (pss_cons (ps_if (pt_cmpR op_gt (pe_ix ix_two (pv 0) pe_int (fun _ _ => rfl)) pe_int (nomark _)) (pss_cons (ps_set (i := 2) sc__law_take.nd rfl (by first | exact Or.inl rfl | exact Or.inr rfl) (pe_op op_mod (pe_callTy call_int1 (by rfl) T.z_int (by decide +kernel) (pa_cons (pe_ix ix_two (pv 0) pe_int (fun _ _ => rfl)) pa_nil)) (pv 1)))
    (pss_cons (ps_asg (pe_op op_fdiv (pe_ix ix_two (pv 0) pe_int (fun _ _ => rfl)) (pv 1)) (pg_sub (pv 0) pe_int set_list))
    (pss_one (ps_ret (pv 2))))) pss_nil)
    (pss_cons (ps_set (i := 3) sc__law_take.nd rfl (by first | exact Or.inl rfl | exact Or.inr rfl) pe_int)
    (pss_cons (ps_if (pt_cmpR op_lt (pe_ix ix_two (pv 0) pe_int (fun _ _ => rfl)) (pe_callB call_len_seq (by rfl) T.z_len (by decide +kernel) (pa_cons (pe_ix ix_two (pv 0) pe_int (fun _ _ => rfl)) pa_nil)) (nomark _)) (pss_one (ps_set (i := 3) sc__law_take.nd rfl (by first | exact Or.inl rfl | exact Or.inr rfl) (pe_ix ix_two (pe_ix ix_two (pv 0) pe_int (fun _ _ => rfl)) (pe_ix ix_two (pv 0) pe_int (fun _ _ => rfl)) (fun _ _ => rfl)))) pss_nil)
    (pss_cons (ps_asg (pe_op op_add (pe_ix ix_two (pv 0) pe_int (fun _ _ => rfl)) pe_int) (pg_sub (pv 0) pe_int set_list))
    (pss_cons (ps_if (pt_cmpR op_ge (pv 3) (pe_op op_pow pe_int pe_int) (nomark _)) (pss_cons (ps_asg (pe_op op_fdiv (pv 3) pe_int) (pg_sub (pv 0) pe_int set_list))
    (pss_one (ps_ret (pe_call ih (hr.mono (by first | decide | omega)) rfl T.m__law_take T.F__law_take.kp T.b__law_take .nil passN (pa_cons (pv 0) (pa_cons (pv 1) pa_nil)))))) pss_nil)
    (pss_cons (ps_asg (pe_op op_mod (pe_callTy call_int1 (by rfl) T.z_int (by decide +kernel) (pa_cons (pe_op op_add (pe_op op_add (pe_op op_mul (pe_ix ix_two (pv 0) pe_int (fun _ _ => rfl)) pe_int) (pe_op op_mul (pv 3) pe_int)) (pe_op op_mul (pe_ix ix_two (pv 0) pe_int (fun _ _ => rfl)) pe_int)) pa_nil)) pe_int) (pg_sub (pv 0) pe_int set_list))
    (pss_cons (ps_set (i := 4) sc__law_take.nd rfl (by first | exact Or.inl rfl | exact Or.inr rfl) (pe_op op_mod (pe_callTy call_int1 (by rfl) T.z_int (by decide +kernel) (pa_cons (pe_op op_add (pe_op op_add (pe_op op_mul (pe_ix ix_two (pv 0) pe_int (fun _ _ => rfl)) (pe_ix ix_two (pv 0) pe_int (fun _ _ => rfl))) (pe_op op_mul (pe_ix ix_two (pv 0) pe_int (fun _ _ => rfl)) pe_int)) pe_int) pa_nil)) pe_int))
    (pss_one (ps_ret (pe_op op_mod (pe_callTy call_int1 (by rfl) T.z_int (by decide +kernel) (pa_cons (pe_op op_fdiv (pv 4) pe_int) pa_nil)) (pv 1))))))))))), ?_⟩
  obtain ⟨G, a, many, cl, cells, i, r, s, rfl, b, ga, hp, hs, hcl, hlen, i0, r0, s0, s1, hcr, m0, m1, k⟩ := h
  have rc : Rp K G (.ref cl) (.list (iL cells)) := .lst hs (iL_dpa _)
  by_cases hr0 : 0 < r
  · refine q_when K (c := true) b (EvB.to (eb_test (ed_gt (ed_ixO rfl hp rfl (.int r) ed_int) ed_int)) (decide_eq_true hr0)) (fun _ G1 H1 w1 => ?_) fun e => nomatch e
    have k1 := w1.keep hp ga
    refine q_setI K w1.b (ed_modP (ed_toint (ed_ixO rfl k1.1 rfl (.int r) ed_int)) (ed_vI rfl) m0) fun G2 H2 w2 => ?_
    have k2 := w2.keep k1.1 k1.2
    refine q_put K (j := 2) w2.b (ed_divP (ed_ixO rfl k2.1 rfl (.int r) ed_int) (ed_vI rfl) ⟨m0, m1⟩) rfl k2.2 k2.1 rfl fun v G3 H3 w3 g3 hv => ?_
    cases hv
    have w4 : Wp a G H G3 (upd H3 a (.lst [.ref cl, .int i, .int (r / many), .int s])) := (((w1.trans w2).trans w3).wp).mut g3
    refine s_ret K w4.b (ed_vI rfl) fun v G5 H5 w5 hv => ?_
    cases hv
    refine k _ G5 H5 (Int.emod_nonneg _ (by omega)) (Int.emod_lt_of_pos _ m0) (w4.trans w5.wp) (Pool.up ⟨g3, cl, cells, i, r / many, s, upd_same, sql_up w4.g hs, hcl, hlen, i0, Int.ediv_nonneg r0 (by omega), s0, s1⟩ w5)
  · refine q_when K (c := false) b (EvB.to (eb_test (ed_gt (ed_ixO rfl hp rfl (.int r) ed_int) ed_int)) (decide_eq_false hr0)) (fun e => nomatch e) fun _ G1 H1 w1 => ?_
    have k1 := w1.keep hp ga
    refine q_setI K w1.b ed_int fun G2 H2 w2 => ?_
    have k2 := w2.keep k1.1 k1.2
    have w02 := w1.trans w2
    -- the cell
    obtain ⟨cell, hcell, ce⟩ : ∃ cell : Int, 0 ≤ cell ∧ ((i < (cells.length : Int) → cells[i.toNat]? = some cell) ∧ (¬ i < (cells.length : Int) → cell = 0)) := by
      by_cases hi : i < (cells.length : Int)
      · have hg : cells[i.toNat]? = some (cells[i.toNat]'(by omega)) := List.getElem?_eq_getElem (by omega)
        exact ⟨_, hcl _ (List.mem_of_getElem? hg), fun _ => hg, fun z => absurd hi z⟩
      · exact ⟨0, Int.le_refl 0, fun z => absurd z hi, fun _ => rfl⟩
    have h0 := fun G2 H2 (k2 : H2 a = some (.lst [.ref cl, .int i, .int r, .int s])) (w : Same G G2) => @ed_ixO K [some (.ref a), some (.int many), none, some (.int 0), none] G2 H2 (tC (.int 0)) (.list (iL cells)) 0 a _ 0 _ rfl k2 rfl (dp_up w rc) ed_int
    refine q_ifI K (i := 3) (n := cell) (c := decide (i < (cells.length : Int))) w2.b (EvB.to (eb_test (ed_lt (ed_ixO rfl k2.1 rfl (.int i) ed_int) (ed_lenL (h0 G2 H2 k2.1 w02.g)))) (by unfold iL; rw [List.length_map])) (fun e => ?_) (fun e => ?_) fun G3 H3 w3 => ?_
    · have e' := of_decide_eq_true e
      refine ed_ix2L (h0 G2 H2 k2.1 w02.g) (ed_ixO rfl k2.1 rfl (.int i) ed_int) ?_
      have e1 := ce.1 e'
      have e2 : (iL cells)[i.toNat]? = some (.int cell) := by unfold iL; rw [List.getElem?_map, e1]; rfl
      have := atI_nat e2
      rwa [Int.toNat_of_nonneg i0] at this
    · rw [ce.2 (of_decide_eq_false e)]; rfl
    have k3 := w3.keep k2.1 k2.2
    have w03 := w02.trans w3
    refine q_put K (j := 1) w3.b (ed_add (ed_ixO rfl k3.1 rfl (.int i) ed_int) ed_int) rfl k3.2 k3.1 rfl fun v G4 H4 w4 g4 hv => ?_
    cases hv
    have w5 : Wp a G H G4 (upd H4 a (.lst [.ref cl, .int (i + 1), .int r, .int s])) := ((w03.trans w4).wp).mut g4
    have hp5 : (upd H4 a (.lst [.ref cl, .int (i + 1), .int r, .int s])) a = some (.lst [.ref cl, .int (i + 1), .int r, .int s]) := upd_same
    by_cases hbig : (10 : Int) ^ 18 ≤ cell
    · refine q_when K (c := true) w5.b (EvB.to (eb_test (ed_ge (ed_vI rfl) (ed_pow ed_int ed_int ⟨by decide, by decide, by decide⟩))) (decide_eq_true hbig)) (fun _ G6 H6 w6 => ?_) fun e => nomatch e
      have k6 := w6.keep hp5 g4
      refine q_put K (j := 2) w6.b (ed_divP (ed_vI rfl) ed_int ⟨by decide, by decide⟩) rfl k6.2 k6.1 rfl fun v G7 H7 w7 g7 hv => ?_
      cases hv
      have w8 : Wp a G H G7 (upd H7 a (.lst [.ref cl, .int (i + 1), .int (cell / 2), .int s])) := (w5.trans (w6.trans w7).wp).mut g7
      have hh : 0 < cell / 2 := by
        have : (10 : Int) ^ 18 = 1000000000000000000 := by decide
        omega
      refine ⟨_, rfl, _, rfl, G7, a, many, cl, cells, i + 1, cell / 2, s, rfl, w8.b, g7, upd_same, sql_up w8.g hs, hcl, hlen, by omega, by omega, s0, s1, ?_, m0, m1, fun d G9 H9 d0 d1 w9 p9 => k d G9 H9 d0 d1 (w8.trans w9) p9⟩
      rcases hc r hcr with z | z
      · exact absurd z hr0
      · exact z _ hh
    · refine q_when K (c := false) w5.b (EvB.to (eb_test (ed_ge (ed_vI rfl) (ed_pow ed_int ed_int ⟨by decide, by decide, by decide⟩))) (decide_eq_false hbig)) (fun e => nomatch e) fun _ G6 H6 w6 => ?_
      have k6 := w6.keep hp5 g4
      refine q_put K (j := 3) w6.b (ed_modP (ed_toint (ed_add (ed_add (ed_mul (ed_ixO rfl k6.1 rfl (.int s) ed_int) ed_int (.inr ⟨by decide, by decide⟩)) (ed_mul (ed_vI rfl) ed_int (.inr ⟨by decide, by decide⟩))) (ed_mul (ed_ixO rfl k6.1 rfl (.int (i + 1)) ed_int) ed_int (.inr ⟨by decide, by decide⟩)))) ed_int (by decide)) rfl k6.2 k6.1 rfl fun v G7 H7 w7 g7 hv => ?_
      cases hv
      generalize hs' : (s * 48271 + cell * 69621 + (i + 1) * 613) % 2147483647 = s'
      have s'0 : 0 ≤ s' := by rw [← hs']; exact Int.emod_nonneg _ (by decide)
      have s'1 : s' < 2147483647 := by rw [← hs']; exact Int.emod_lt_of_pos _ (by decide)
      have w8 : Wp a G H G7 (upd H7 a (.lst [.ref cl, .int (i + 1), .int r, .int s'])) := (w5.trans (w6.trans w7).wp).mut g7
      have hp8 : (upd H7 a (.lst [.ref cl, .int (i + 1), .int r, .int s'])) a = some (.lst [.ref cl, .int (i + 1), .int r, .int s']) := upd_same
      refine q_setI K w8.b (ed_modP (ed_toint (ed_add (ed_add (ed_mul (ed_ixO rfl hp8 rfl (.int s') ed_int) (ed_ixO rfl hp8 rfl (.int s') ed_int) (.inl ⟨by omega, by omega⟩)) (ed_mul (ed_ixO rfl hp8 rfl (.int s') ed_int) ed_int (.inr ⟨by decide, by decide⟩))) ed_int)) ed_int (by decide)) fun G9 H9 w9 => ?_
      refine s_ret K w9.b (ed_modP (ed_toint (ed_divP (ed_vI rfl) ed_int ⟨by decide, by decide⟩)) (ed_vI rfl) m0) fun v G10 H10 w10 hv => ?_
      cases hv
      exact k _ G10 H10 (Int.emod_nonneg _ (by omega)) (Int.emod_lt_of_pos _ m0) (w8.trans (w9.trans w10).wp)
        (Pool.up ⟨g7, cl, cells, i + 1, r, s', upd_same, sql_up w8.g hs, hcl, hlen, by omega, r0, s'0, s'1⟩ (w9.trans w10))
theorem ok__law_take (T : Txt K mg Z) : FnOk P w K mg base (L2N.CX P w) 2 Z.f__law_take Z.d__law_take ["pool", "many"] (spTake K) := by
  have h1 := take_step (P := P) (w := w) (base := base) T (c := fun _ => False) (c' := fun r => 0 < r) (n := 0) (fun r h => .inl h) (FnOk.imp fn_never fun _ _ _ _ h => by
    obtain ⟨_, _, _, _, _, _, _, _, _, _, _, _, _, _, _, _, _, _, _, h, _⟩ := h; exact h)
  have h2 := take_step (P := P) (w := w) (base := base) T (c := fun r => 0 < r) (c' := fun _ => True) (n := 1) (fun r _ => .inr fun x h => h) h1
  refine FnOk.imp h2 fun vs H Q E h => ?_
  obtain ⟨G, a, many, rfl, b, ⟨ga, cl, cells, i, r, s, hp, hs, h1, h2, h3, h4, h5, h6⟩, m0, m1, k⟩ := h
  exact ⟨G, a, many, cl, cells, i, r, s, rfl, b, ga, hp, hs, h1, h2, h3, h4, h5, h6, trivial, m0, m1, k⟩
end
end K71
namespace K71
open PySem PySem.Spec PyProof.Rows L2 L3 TF
section
variable {P : Program} {w : World} {K : Fg} {mg : Str → Option Value} {base : Heap} {Z : Ad}
theorem ok__law_is_integer (T : Txt K mg Z) : FnOk P w K mg base (L2N.CX P w) 1 Z.f__law_is_integer Z.d__law_is_integer ["actual"] (spR K 1 (R1 fun d => .ok (.bool (isW d)))) := by
  refine okN T.F__law_is_integer sc__law_is_integer spR_len (fun cdv A outer s H vs Q E hr h => ?_)
  refine ⟨_, (pss_one (ps_ret (pe_and (pe_callB call_isi (by rfl) T.z_isinstance (by decide +kernel) (pa_cons (pv 0) (pa_cons (pe_bltn (v := .ty "int") (by rfl) T.z_int (by decide +kernel) rfl) pa_nil))) (pe_one (pe_not (pe_callB call_isi (by rfl) T.z_isinstance (by decide +kernel) (pa_cons (pv 0) (pa_cons (pe_bltn (v := .ty "bool") (by rfl) T.z_bool (by decide +kernel) rfl) pa_nil)))))))), ?_⟩
  obtain ⟨G, ds, r, b, ha, _, ⟨d, rfl, rfl⟩, k⟩ := h
  obtain ⟨v, rfl, hv⟩ := rpa1 ha
  refine s_ret K (d := .bool (isW d)) b ?_ k
  rw [← isW_eq]
  exact ed_andV (ed_isi (ed_var rfl hv) (kb_int d)) fun _ => ed_notV (ed_isi (ed_var rfl hv) (kb_bool d))
theorem ok__law_pool (T : Txt K mg Z) : FnOk P w K mg base (L2N.CX P w) 1 Z.f__law_pool Z.d__law_pool ["script"] (spPool K) := by
  refine okN T.F__law_pool sc__law_pool spPool_len (fun cdv A outer s H vs Q E hr h => ?_)
  refine ⟨_, (pss_one (ps_ret (pe_lst (pa_cons (pe_lc (own := [("cell", 1)]) rfl sc__law_pool.nd (pi_list (pv 0)) (blkOk_by (own := [("cell", 1)]) (N := ["script", "cell"]) (sc := defScope s__law_pool) (by decide +kernel)) (fun _ _ _ _ _ => (pg_name (i := 1) sc__law_pool.nd rfl (by first | exact Or.inl rfl | exact Or.inr rfl))) (fun _ _ _ _ _ => pts_nil) (fun _ _ _ _ _ => (pe_ifExp (pt_cmpR op_ge (pv 1) pe_int (nomark _)) (pe_op op_mul pe_int (pv 1)) (pe_op op_sub (pe_op op_mul (pe_un un_neg pe_int) (pv 1)) pe_int)))) (pa_cons pe_int (pa_cons pe_int (pa_cons pe_int pa_nil))))))), ?_⟩
  obtain ⟨G, a, ns, rfl, b, hs, hl, k⟩ := h
  have hv : Rp K G (.ref a) (.list (iL ns)) := .lst hs (iL_dpa _)
  have hc : EvD K _ _ G H _ := ed_mapL (te := tIf (tTest (tOp (rI0 fun i j => .bl (decide (j ≤ i))) (tVar 1) (tC (.int 0)))) (tOp (rI CMul fun i j => .int (i * j)) (tC (.int 2)) (tVar 1)) (tOp (rI0 fun i j => .int (i - j)) (tOp (rI CMul fun i j => .int (i * j)) (tUn (rU fun i => .int (-i)) (tC (.int 2))) (tVar 1)) (tC (.int 1))))
    (σ := [some (.ref a), none]) (j := 1) (vs := [1]) (tl := tVar 0) (fun x => match x with | .int i => if decide (0 ≤ i) = true then .int (2 * i) else .int (-2 * i - 1) | _ => .none) (ed_var rfl hv) (by unfold iL; rw [List.length_map]; omega) (fun _ => rfl)
    (fun d hd v G1 H1 w1 hv => by
      obtain ⟨i, _, rfl⟩ : ∃ i, i ∈ ns ∧ PyData.int i = d := List.mem_map.mp hd
      cases hv
      exact ed_if (eb_test (ed_ge (ed_vI rfl) ed_int)) (fun _ => ed_mul ed_int (ed_vI rfl) (.inl ⟨by decide, by decide⟩)) fun _ => ed_sub (ed_mul (ed_neg ed_int) (ed_vI rfl) (.inl ⟨by decide, by decide⟩)) ed_int)
  refine s_retL b (ea_cons hc (ea_cons ed_int (ea_cons ed_int (ea_cons ed_int ea_nil)))) fun vs G1 H1 p w1 hvs hp => ?_
  cases hvs with
  | cons h1 hvs =>
    cases hvs with
    | cons h2 hvs =>
      cases hvs with
      | cons h3 hvs =>
        cases hvs with
        | cons h4 hvs =>
          cases hvs; cases h2; cases h3; cases h4
          cases h1 with
          | @lst c xs _ hs1 hr1 =>
            have wo : Wk G1 H1 G1 (upd H1 p (.lst [.ref c, .int 0, .int 0, .int 17])) := Wk.own w1.b hp
            have ex : (iL ns).map (fun x => match x with | .int i => if decide (0 ≤ i) = true then PyData.int (2 * i) else .int (-2 * i - 1) | _ => .none) = iL (ns.map fun i => if 0 ≤ i then 2 * i else -2 * i - 1) := by
              unfold iL
              rw [List.map_map, List.map_map]
              refine List.map_congr_left fun i _ => ?_
              show (if decide (0 ≤ i) = true then PyData.int (2 * i) else .int (-2 * i - 1)) = .int (if 0 ≤ i then 2 * i else -2 * i - 1)
              by_cases h : 0 ≤ i <;> simp [h]
            rw [ex] at hr1
            have e := dpa_iL hr1
            subst e
            refine k p G1 _ (w1.h.free hp) (w1.trans wo) ⟨none_of_same w1.b hp, c, _, 0, 0, 17, upd_same, hs1, fun x hx => ?_, by rw [List.length_map]; exact hl, by decide, by decide, by decide, by decide⟩
            obtain ⟨i, _, rfl⟩ := List.mem_map.mp hx
            split <;> omega
theorem ok__law_pick (T : Txt K mg Z) : FnOk P w K mg base (L2N.CX P w) 3 Z.f__law_pick Z.d__law_pick ["pool", "rows"] (spPick K) := by
  refine okN T.F__law_pick sc__law_pick spPick_len (fun cdv A outer s H vs Q E hr h => ?_)
  refine ⟨_, (pss_one (ps_ret (pe_ix ix_two (pv 1) (pe_call (ok__law_take T) (hr.mono (by first | decide | omega)) rfl T.m__law_take T.F__law_take.kp T.b__law_take .nil passN (pa_cons (pv 0) (pa_cons (pe_callB call_len_seq (by rfl) T.z_len (by decide +kernel) (pa_cons (pv 1) pa_nil)) pa_nil))) (fun _ _ => rfl)))), ?_⟩
  obtain ⟨G, a, x, d, ds, rfl, b, hp, hx, hd, hne, hl, k⟩ := h
  have hpos : 0 < ds.length := by cases ds with | nil => exact absurd rfl hne | cons _ _ => exact Nat.succ_pos _
  refine ⟨_, rfl, _, rfl, ?_⟩
  refine (ed_lenS (K := K) (ed_var (i := 1) rfl hx) hd) G H (Wk.refl b) _ fun v G1 H1 w1 hv => ?_
  cases hv
  refine ⟨G1, a, ds.length, rfl, w1.b, hp.up w1, by omega, by omega, fun z G2 H2 z0 z1 w2 p2 => ?_⟩
  have hx2 := dp_up (w1.g.trans w2.g) hx
  have hg : ds[z.toNat]? = some (ds[z.toNat]'(by omega)) := List.getElem?_eq_getElem (by omega)
  have hat : atI ds z = some (ds[z.toNat]'(by omega)) := by
    have := atI_nat hg
    rwa [Int.toNat_of_nonneg z0] at this
  rcases hd with rfl | rfl
  · cases hx2 with
    | lst hs hr1 =>
      obtain ⟨v, e1, e2⟩ := atI_rp hr1 hat
      exact .inl ⟨_, _, z, v, rfl, rfl, sql_up w2.b hs, e1, k v _ G2 H2 (List.mem_of_getElem? hg) (w1.wp.trans w2) p2 e2⟩
  · cases hx2 with
    | tup hs hr1 =>
      obtain ⟨v, e1, e2⟩ := atI_rp hr1 hat
      exact .inr ⟨_, _, z, v, rfl, rfl, sqt_up w2.b hs, e1, k v _ G2 H2 (List.mem_of_getElem? hg) (w1.wp.trans w2) p2 e2⟩
/-- a tree is the same as itself -/
def rSame (n : Nat) : List PyData → Except Addr PyData → Prop := fun ds r => ∃ d, ds = [d, d] ∧ d.canLay0 = true ∧ dep d < n ∧ wid d ≤ 400000 ∧ r = .ok (.bool true)
theorem all_true : ∀ (n : Nat), (List.replicate n true).all id = true
  | 0 => rfl
  | n + 1 => by rw [List.replicate_succ, List.all_cons, all_true n]; rfl
theorem rg_map_true (n : Nat) : (rg 0 n).map (fun _ => PyData.bool true) = bL (List.replicate n true) := by
  unfold rg bL
  rw [List.map_map, List.map_replicate]
  refine List.ext_getElem (by simp) fun i h1 h2 => by simp
theorem same_step (T : Txt K mg Z) {n : Nat} (ih : FnOk P w K mg base (L2N.CX P w) (n + 1) Z.f__law_same Z.d__law_same ["actual", "due"] (spR K 2 (rSame n))) :
    FnOk P w K mg base (L2N.CX P w) (n + 1 + 1) Z.f__law_same Z.d__law_same ["actual", "due"] (spR K 2 (rSame (n + 1))) := by
  refine okN T.F__law_same sc__law_same spR_len (fun cdv A outer s H vs Q E hr h => ?_)
  have hr1 : Room (n + 1) (A.deeper (envOfC "_law_same" (defScope s__law_same) s.heap.objs.size Z.f__law_same cdv)) := hr
  refine ⟨_, (pss_cons (ps_if (pt_val (pe_callB call_isi (by rfl) T.z_isinstance (by decide +kernel) (pa_cons (pv 1) (pa_cons (pe_bltn (v := .ty "tuple") (by rfl) T.z_tuple (by decide +kernel) rfl) pa_nil)))) (pss_cons (ps_if (PW.pt (pw_or (pt_not (pt_val (pe_callB call_isi (by rfl) T.z_isinstance (by decide +kernel) (pa_cons (pv 0) (pa_cons (pe_bltn (v := .ty "tuple") (by rfl) T.z_tuple (by decide +kernel) rfl) pa_nil))))) (pw_or1 (pt_cmpR (op_neD hr.units) (pe_callB call_len_seq (by rfl) T.z_len (by decide +kernel) (pa_cons (pv 0) pa_nil)) (pe_callB call_len_seq (by rfl) T.z_len (by decide +kernel) (pa_cons (pv 1) pa_nil)) (nomark _))))) (pss_one (ps_ret pe_bl)) pss_nil)
    (pss_one (ps_ret (pe_callB (cr_all rfl) (by rfl) T.z_all (by decide +kernel) (pa_cons (pe_lc (own := [("k", 2)]) rfl sc__law_same.nd (pi_range1 (by rfl) T.z_range (pa_cons (pe_callB call_len_seq (by rfl) T.z_len (by decide +kernel) (pa_cons (pv 1) pa_nil)) pa_nil)) (blkOk_by (own := [("k", 2)]) (N := ["actual", "due", "k"]) (sc := defScope s__law_same) (by decide +kernel)) (fun _ _ _ _ _ => (pg_name (i := 2) sc__law_same.nd rfl (by first | exact Or.inl rfl | exact Or.inr rfl))) (fun _ _ _ _ _ => pts_nil) (fun _ _ _ _ _ => (pe_call ih (hr.mono (by first | decide | omega)) rfl T.m__law_same T.F__law_same.kp T.b__law_same .nil passN (pa_cons (pe_ix (show IxR _ (rIx2 K) from ix_two) (pv 0) (pv 2) (fun _ _ => rfl)) (pa_cons (pe_ix (show IxR _ (rIx2 K) from ix_two) (pv 1) (pv 2) (fun _ _ => rfl)) pa_nil))))) pa_nil))))) pss_nil)
    (pss_cons (ps_if (pt_val (pe_callB call_isi (by rfl) T.z_isinstance (by decide +kernel) (pa_cons (pv 1) (pa_cons (pe_bltn (v := .ty "list") (by rfl) T.z_list (by decide +kernel) rfl) pa_nil)))) (pss_cons (ps_if (PW.pt (pw_or (pt_not (pt_val (pe_callB call_isi (by rfl) T.z_isinstance (by decide +kernel) (pa_cons (pv 0) (pa_cons (pe_bltn (v := .ty "list") (by rfl) T.z_list (by decide +kernel) rfl) pa_nil))))) (pw_or1 (pt_cmpR (op_neD hr.units) (pe_callB call_len_seq (by rfl) T.z_len (by decide +kernel) (pa_cons (pv 0) pa_nil)) (pe_callB call_len_seq (by rfl) T.z_len (by decide +kernel) (pa_cons (pv 1) pa_nil)) (nomark _))))) (pss_one (ps_ret pe_bl)) pss_nil)
    (pss_one (ps_ret (pe_callB (cr_all rfl) (by rfl) T.z_all (by decide +kernel) (pa_cons (pe_lc (own := [("k", 2)]) rfl sc__law_same.nd (pi_range1 (by rfl) T.z_range (pa_cons (pe_callB call_len_seq (by rfl) T.z_len (by decide +kernel) (pa_cons (pv 1) pa_nil)) pa_nil)) (blkOk_by (own := [("k", 2)]) (N := ["actual", "due", "k"]) (sc := defScope s__law_same) (by decide +kernel)) (fun _ _ _ _ _ => (pg_name (i := 2) sc__law_same.nd rfl (by first | exact Or.inl rfl | exact Or.inr rfl))) (fun _ _ _ _ _ => pts_nil) (fun _ _ _ _ _ => (pe_call ih (hr.mono (by first | decide | omega)) rfl T.m__law_same T.F__law_same.kp T.b__law_same .nil passN (pa_cons (pe_ix (show IxR _ (rIx2 K) from ix_two) (pv 0) (pv 2) (fun _ _ => rfl)) (pa_cons (pe_ix (show IxR _ (rIx2 K) from ix_two) (pv 1) (pv 2) (fun _ _ => rfl)) pa_nil))))) pa_nil))))) pss_nil)
    (pss_cons (ps_if (pt_cmpR op_isN (pv 1) pe_non (nomark _)) (pss_one (ps_ret (pe_cmpR op_isN (pv 0) pe_non (nomark _)))) pss_nil)
    (pss_cons (ps_if (pt_val (pe_callB call_isi (by rfl) T.z_isinstance (by decide +kernel) (pa_cons (pv 1) (pa_cons (pe_bltn (v := .ty "bool") (by rfl) T.z_bool (by decide +kernel) rfl) pa_nil)))) (pss_one (ps_ret (pe_and (pe_callB call_isi (by rfl) T.z_isinstance (by decide +kernel) (pa_cons (pv 0) (pa_cons (pe_bltn (v := .ty "bool") (by rfl) T.z_bool (by decide +kernel) rfl) pa_nil))) (pe_one (pe_cmpR (op_eqD hr.units) (pv 0) (pv 1) (nomark _)))))) pss_nil)
    (pss_cons (ps_if (pt_val (pe_callB call_isi (by rfl) T.z_isinstance (by decide +kernel) (pa_cons (pv 1) (pa_cons (pe_bltn (v := .ty "str") (by rfl) T.z_str (by decide +kernel) rfl) pa_nil)))) (pss_one (ps_ret (pe_and (pe_callB call_isi (by rfl) T.z_isinstance (by decide +kernel) (pa_cons (pv 0) (pa_cons (pe_bltn (v := .ty "str") (by rfl) T.z_str (by decide +kernel) rfl) pa_nil))) (pe_one (pe_cmpR (op_eqD hr.units) (pv 0) (pv 1) (nomark _)))))) pss_nil)
    (pss_one (ps_ret (pe_and (pe_call (ok__law_is_integer T) (hr.mono (by first | decide | omega)) rfl T.m__law_is_integer T.F__law_is_integer.kp T.b__law_is_integer .nil passN (pa_cons (pv 0) pa_nil)) (pe_one (pe_cmpR (op_eqD hr.units) (pv 0) (pv 1) (nomark _))))))))))), ?_⟩
  obtain ⟨G, ds, r, b, ha, _, ⟨d, rfl, hlay, hdep, hwid, rfl⟩, k⟩ := h
  obtain ⟨v, u, rfl, hv, hu⟩ := rpa2 ha
  have items : ∀ (es : List PyData) G1 H1 (te : TE), Wk G H G1 H1 → (d = .list es ∨ d = .tuple es) → (∀ (i : Int), 0 ≤ i → i < (es.length : Int) → ∀ G2 H2, Wk G1 H1 G2 H2 → EvD K te [some v, some u, some (.int i)] G2 H2 (.bool true)) →
      EvD K (tCB (rAll K) (tCons (tLc (iRng1 (tCons (tCB (rLen K) (tCons (tVar 1) tNil)) tNil)) (gName 2) tYes te [2]) tNil)) [some v, some u, none] G1 H1 (.bool true) := by
    intro es G1 H1 te w1 hd ht
    have hsz : es.length ≤ 400000 := by
      rcases hd with rfl | rfl <;> exact Nat.le_trans (wid_le _ _ rfl) hwid
    refine EvD.to (ed_all (bs := List.replicate es.length true) (EvD.to (ed_lcR1 (fun _ => true) (fun _ => .bool true) (ea_cons (ed_lenS (ed_var rfl (dp_up w1.g hu)) hd) ea_nil) ⟨by omega, by omega⟩ fun i i0 i1 G2 H2 w2 => turn_n rfl (ht i i0 i1 G2 H2 w2)) ?_)) (by rw [all_true])
    rw [fm_true, Int.toNat_natCast, rg_map_true]
  have item : ∀ (es : List PyData), (d = .list es ∨ d = .tuple es) → ∀ (i : Int), 0 ≤ i → i < (es.length : Int) → ∀ G2 H2, Wk G H G2 H2 → EvD K (tCall (spR K 2 (rSame n)) [] E0 (tCons (tOp (rIx2 K) (tVar 0) (tVar 2)) (tCons (tOp (rIx2 K) (tVar 1) (tVar 2)) tNil))) [some v, some u, some (.int i)] G2 H2 (.bool true) := by
    intro es hd i i0 i1 G2 H2 w2
    have hg : es[i.toNat]? = some (es[i.toNat]'(by omega)) := List.getElem?_eq_getElem (by omega)
    have hat : atI es i = some (es[i.toNat]'(by omega)) := by
      have := atI_nat hg
      rwa [Int.toNat_of_nonneg i0] at this
    have hm := List.mem_of_getElem? hg
    have hl : (es[i.toNat]'(by omega)).canLay0 = true := by
      rcases hd with rfl | rfl <;> exact lay_mem (by simpa only [PyData.canLay0] using hlay) hm
    have hp : dep (es[i.toNat]'(by omega)) < n := by
      have := dep_mem hm
      rcases hd with rfl | rfl <;> (simp only [dep] at hdep; omega)
    have hw : wid (es[i.toNat]'(by omega)) ≤ 400000 := by
      have := wid_mem hm
      rcases hd with rfl | rfl <;> (simp only [wid] at hwid; omega)
    rcases hd with rfl | rfl
    · exact ed_call (ea_cons (ed_ix2L (ed_var rfl (dp_up w2.g hv)) (ed_vI rfl) hat) (ea_cons (ed_ix2L (ed_var rfl (dp_up w2.g hu)) (ed_vI rfl) hat) ea_nil)) rfl ⟨_, rfl, hl, hp, hw, rfl⟩
    · exact ed_call (ea_cons (ed_ix2T (ed_var rfl (dp_up w2.g hv)) (ed_vI rfl) hat) (ea_cons (ed_ix2T (ed_var rfl (dp_up w2.g hu)) (ed_vI rfl) hat) ea_nil)) rfl ⟨_, rfl, hl, hp, hw, rfl⟩
  have kk : ∀ v G1 H1, Wk G H G1 H1 → Rp K G1 v (.bool true) → Q v H1 := k
  clear k
  -- no tuple, then no list, .. are told apart
  by_cases ht : inTup d = true
  · obtain ⟨es, rfl⟩ : ∃ es, d = .tuple es := by
      cases d with
      | tuple es => exact ⟨es, rfl⟩
      | _ => cases ht
    refine q_when K (c := true) b (eb_val (ed_isi (ed_var rfl hu) (kb_tuple _))) (fun _ G1 H1 w1 => ?_) fun e => nomatch e
    refine q_when K (c := false) w1.b (EvB.to (eb_or (eb_not (eb_val (ed_isi (ed_var rfl (dp_up w1.g hv)) (kb_tuple _)))) fun _ => eb_test (ed_neI (ed_lenT (ed_var rfl (dp_up w1.g hv))) (ed_lenT (ed_var rfl (dp_up w1.g hu))))) (by simp [inTup])) (fun e => nomatch e) fun _ G2 H2 w2 => ?_
    exact s_ret K w2.b (items es G2 H2 _ (w1.trans w2) (.inr rfl) fun i i0 i1 G3 H3 w3 => item es (.inr rfl) i i0 i1 G3 H3 ((w1.trans w2).trans w3)) fun v G3 H3 w3 r => kk v G3 H3 ((w1.trans w2).trans w3) r
  refine q_when K (c := false) b (EvB.to (eb_val (ed_isi (ed_var rfl hu) (kb_tuple _))) (by simpa using ht)) (fun e => nomatch e) fun _ G1 H1 w1 => ?_
  by_cases hli : inList d = true
  · obtain ⟨es, rfl⟩ : ∃ es, d = .list es := by
      cases d with
      | list es => exact ⟨es, rfl⟩
      | _ => cases hli
    refine q_when K (c := true) w1.b (eb_val (ed_isi (ed_var rfl (dp_up w1.g hu)) (kb_list _))) (fun _ G2 H2 w2 => ?_) fun e => nomatch e
    have w12 := w1.trans w2
    refine q_when K (c := false) w2.b (EvB.to (eb_or (eb_not (eb_val (ed_isi (ed_var rfl (dp_up w12.g hv)) (kb_list _)))) fun _ => eb_test (ed_neI (ed_lenL (ed_var rfl (dp_up w12.g hv))) (ed_lenL (ed_var rfl (dp_up w12.g hu))))) (by simp [inList])) (fun e => nomatch e) fun _ G3 H3 w3 => ?_
    exact s_ret K w3.b (items es G3 H3 _ (w12.trans w3) (.inl rfl) fun i i0 i1 G4 H4 w4 => item es (.inl rfl) i i0 i1 G4 H4 ((w12.trans w3).trans w4)) fun v G4 H4 w4 r => kk v G4 H4 ((w12.trans w3).trans w4) r
  refine q_when K (c := false) w1.b (EvB.to (eb_val (ed_isi (ed_var rfl (dp_up w1.g hu)) (kb_list _))) (by simpa using hli)) (fun e => nomatch e) fun _ G2 H2 w2 => ?_
  have w12 := w1.trans w2
  have hv2 := dp_up w12.g hv
  have hu2 := dp_up w12.g hu
  by_cases hn : d = .none
  · subst hn
    refine q_when K (c := true) w2.b (eb_test (ed_isN (ed_var rfl hu2) true rfl)) (fun _ G3 H3 w3 => ?_) fun e => nomatch e
    exact s_ret K w3.b (ed_isN (ed_var rfl (dp_up w3.g hv2)) true rfl) fun v G4 H4 w4 r => kk v G4 H4 ((w12.trans w3).trans w4) r
  refine q_when K (c := false) w2.b (eb_test (ed_isN (ed_var rfl hu2) false (by cases d <;> first | rfl | exact absurd rfl hn))) (fun e => nomatch e) fun _ G3 H3 w3 => ?_
  have w13 := w12.trans w3
  have hv3 := dp_up w3.g hv2
  have hu3 := dp_up w3.g hu2
  by_cases hb : inBool d = true
  · obtain ⟨es, rfl⟩ : ∃ es, d = .bool es := by
      cases d with
      | bool es => exact ⟨es, rfl⟩
      | _ => cases hb
    refine q_when K (c := true) w3.b (eb_val (ed_isi (ed_var rfl hu3) (kb_bool _))) (fun _ G4 H4 w4 => ?_) fun e => nomatch e
    refine s_ret K w4.b (EvD.to (ed_andV (ed_isi (ed_var rfl (dp_up w4.g hv3)) (kb_bool _)) fun _ => ed_eq (ed_var rfl (dp_up w4.g hv3)) (ed_var rfl (dp_up w4.g hu3)) rfl rfl) ?_) fun v G5 H5 w5 r => kk v G5 H5 ((w13.trans w4).trans w5) r
    show PyData.bool (true && (es == es)) = _
    simp
  refine q_when K (c := false) w3.b (EvB.to (eb_val (ed_isi (ed_var rfl hu3) (kb_bool _))) (by simpa using hb)) (fun e => nomatch e) fun _ G4 H4 w4 => ?_
  have w14 := w13.trans w4
  have hv4 := dp_up w4.g hv3
  have hu4 := dp_up w4.g hu3
  by_cases hst : inStr d = true
  · obtain ⟨es, rfl⟩ : ∃ es, d = .str es := by
      cases d with
      | str es => exact ⟨es, rfl⟩
      | _ => cases hst
    refine q_when K (c := true) w4.b (eb_val (ed_isi (ed_var rfl hu4) (kb_str _))) (fun _ G5 H5 w5 => ?_) fun e => nomatch e
    have hsh : SeqAt.shaped (.str es) = true := by
      unfold SeqAt.shaped; rw [hlay]; rfl
    refine s_ret K w5.b (EvD.to (ed_andV (ed_isi (ed_var rfl (dp_up w5.g hv4)) (kb_str _)) fun _ => ed_eq (ed_var rfl (dp_up w5.g hv4)) (ed_var rfl (dp_up w5.g hu4)) hsh hsh) ?_) fun v G6 H6 w6 r => kk v G6 H6 ((w14.trans w5).trans w6) r
    show PyData.bool (true && (es == es)) = _
    simp
  refine q_when K (c := false) w4.b (EvB.to (eb_val (ed_isi (ed_var rfl hu4) (kb_str _))) (by simpa using hst)) (fun e => nomatch e) fun _ G5 H5 w5 => ?_
  obtain ⟨i, rfl⟩ : ∃ i, d = .int i := by
    cases d with
    | int i => exact ⟨i, rfl⟩
    | none => exact absurd rfl hn
    | bool _ => exact absurd rfl hb
    | str _ => exact absurd rfl hst
    | list _ => exact absurd rfl hli
    | tuple _ => exact absurd rfl ht
    | dict _ => simp [PyData.canLay0] at hlay
  refine s_ret K w5.b (EvD.to (ed_andV (ed_call (ea_cons (ed_var rfl (dp_up w5.g hv4)) ea_nil) rfl ⟨_, rfl, rfl⟩) fun _ => ed_eq (ed_var rfl (dp_up w5.g hv4)) (ed_var rfl (dp_up w5.g hu4)) rfl rfl) ?_) fun v G6 H6 w6 r => kk v G6 H6 ((w14.trans w5).trans w6) r
  show PyData.bool (true && (i == i)) = _
  simp
theorem ok_same (T : Txt K mg Z) : ∀ n, FnOk P w K mg base (L2N.CX P w) (n + 1) Z.f__law_same Z.d__law_same ["actual", "due"] (spR K 2 (rSame n))
  | 0 => FnOk.imp fn_never fun vs H Q E h => by
    obtain ⟨_, _, _, _, _, _, ⟨_, _, _, z, _⟩, _⟩ := h
    exact absurd z (Nat.not_lt_zero _)
  | n + 1 => same_step T (ok_same T n)
/-- trees of a depth below 8 -/
theorem ok__law_same (T : Txt K mg Z) : FnOk P w K mg base (L2N.CX P w) 9 Z.f__law_same Z.d__law_same ["actual", "due"] (spR K 2 (rSame 8)) := ok_same T 8
end
end K71
namespace K71
open PySem PySem.Spec PyProof.Rows L2 L3 TF
section
variable {P : Program} {w : World} {K : Fg} {mg : Str → Option Value} {base : Heap} {Z : Ad}
/-- the greatest common divisor of two numbers of at most 200 bits -/
def rCommon : List PyData → Except Addr PyData → Prop := fun ds r => ∃ i j, ds = [.int i, .int j] ∧ i.natAbs < 2 ^ 200 ∧ j.natAbs < 2 ^ 200 ∧ r = .ok (.int ((Nat.gcd i.natAbs j.natAbs : Nat) : Int))
theorem ab_eq (i : Int) : ab i = (i.natAbs : Int) := by unfold ab; split <;> omega
theorem ok__law_common (T : Txt K mg Z) : FnOk P w K mg base (L2N.CX P w) 1 Z.f__law_common Z.d__law_common ["one", "other"] (spR K 2 rCommon) := by
  refine okN T.F__law_common sc__law_common spR_len (fun cdv A outer s H vs Q E hr h => ?_)
  refine ⟨_, (pss_cons (ps_par (i := 0) (j := 1) (by rfl) sc__law_common.nd rfl rfl (by decide) rfl rfl (pa_cons (pe_callB call_abs (by rfl) T.z_abs (by decide +kernel) (pa_cons (pv 0) pa_nil)) (pa_cons (pe_callB call_abs (by rfl) T.z_abs (by decide +kernel) (pa_cons (pv 1) pa_nil)) pa_nil)) (by rfl))
    (pss_cons (ps_for (passes_of rfl) rfl (pi_range1 (by rfl) T.z_range (pa_cons pe_int pa_nil)) (pg_name (i := 2) sc__law_common.nd rfl (by first | exact Or.inl rfl | exact Or.inr rfl)) (pss_cons (ps_if (pt_cmpR (op_eqD hr.units) (pv 1) pe_int (nomark _)) (pss_one ps_break) pss_nil)
    (pss_one (ps_par (i := 0) (j := 1) (by rfl) sc__law_common.nd rfl rfl (by decide) rfl rfl (pa_cons (pv 1) (pa_cons (pe_op op_sub (pv 0) (pe_op op_mulW (pv 1) (pe_callTy call_int1 (by rfl) T.z_int (by decide +kernel) (pa_cons (pe_op op_fdivW (pv 0) (pv 1)) pa_nil)))) pa_nil)) (by rfl)))))
    (pss_one (ps_ret (pv 0))))), ?_⟩
  obtain ⟨G, ds, r, b, ha, _, ⟨a0, b0, rfl, hi, hj, rfl⟩, k⟩ := h
  obtain ⟨v, u, rfl, hv, hu⟩ := rpa2 ha
  cases hv; cases hu
  refine q_parI K b (ea_cons (ed_abs (ed_vI rfl)) (ea_cons (ed_abs (ed_vI rfl)) ea_nil)) fun G1 H1 w1 => ?_
  have ea : (if a0 < 0 then -a0 else a0) = (a0.natAbs : Int) := ab_eq a0
  have eb : (if b0 < 0 then -b0 else b0) = (b0.natAbs : Int) := ab_eq b0
  rw [ea, eb]
  have p200 : (2 : Int) ^ 200 = ((2 ^ 200 : Nat) : Int) := by simp
  have lim := reg_log 200 (a0.natAbs : Int) (b0.natAbs : Int) (by omega) (by rw [p200]; exact_mod_cast hj) 401 (by omega)
  have p200' : (2 : Nat) ^ 200 = 1606938044258990275541962092341162602522202993782792835301376 := by decide
  refine q_forR1 K (fun i σ _ _ => ∃ x y t, σ = [some (.int x), some (.int y), t] ∧ 0 ≤ x ∧ 0 ≤ y ∧ x.natAbs < 2 ^ 200 ∧ y.natAbs < 2 ^ 200 ∧ Nat.gcd x.natAbs y.natAbs = Nat.gcd a0.natAbs b0.natAbs ∧ ∃ pre n, pre.length = i ∧ i + n = 401 ∧ reg 401 (a0.natAbs : Int) (b0.natAbs : Int) = pre ++ reg n x y)
    w1 (ea_cons ed_int ea_nil) (by decide) (fun G2 H2 w2 => ⟨_, _, _, rfl, by omega, by omega, by simpa using hi, by simpa using hj, by simp, [], 401, rfl, rfl, rfl⟩) ?_ ?_
  · rintro i σ' G2 H2 hi' w2 e2 ⟨x, y, t, rfl, hx, hy, hx2, hy2, hg, pre, n, hp, hn, hr'⟩
    by_cases hy0 : y = 0
    · subst hy0
      refine q_when K (c := true) w2.b (EvB.to (eb_test (ed_eqI (ed_vI rfl) ed_int)) rfl) (fun _ G3 H3 w3 => ?_) fun e => nomatch e
      refine s_ret K w3.b (ed_vI rfl) fun v G4 H4 w4 hv => k v G4 H4 ((w2.trans w3).trans w4) ?_
      cases hv
      have : x = ((Nat.gcd a0.natAbs b0.natAbs : Nat) : Int) := by
        rw [← hg]; simp; omega
      rw [← this]; exact .int _
    · refine q_when K (c := false) w2.b (EvB.to (eb_test (ed_eqI (ed_vI rfl) ed_int)) (by simpa using hy0)) (fun e => nomatch e) fun _ G3 H3 w3 => ?_
      have e := rest_is x y
      have m0 := Int.emod_nonneg x hy0
      have m1 := Int.emod_lt_of_pos x (show 0 < y by omega)
      have hlen := lim.2
      have q0 : 0 ≤ x / y := Int.ediv_nonneg hx hy
      have q1 : x / y ≤ x := Int.ediv_le_self _ hx
      refine s_parI K w3.b (ea_cons (ed_vI rfl) (ea_cons (ed_sub (ed_vI rfl) (ed_mulW (ed_vI rfl) (ed_toint (ed_divW (ed_vI rfl) (ed_vI rfl) (wide_div (b := 200) (by omega) hy2 (by decide) (by decide)))) (wide_mul (a := 200) (b := 200) hy2 (by omega) (by decide) (by decide) (by decide)))) ea_nil)) fun G4 H4 w4 => ?_
      have hn1 : n ≠ 0 := by
        rintro rfl
        rw [show reg 0 x y = [] from rfl, List.append_nil] at hr'
        rw [hr'] at hlen; omega
      obtain ⟨m, rfl⟩ : ∃ m, n = m + 1 := ⟨n - 1, by omega⟩
      have ec : x - y * (x / y) = x % y := by rw [Int.mul_comm]; exact e
      refine ⟨G4, (w2.trans w3).trans w4, w3.g.trans w4.g, y, x - y * (x / y), some (.int i), rfl, hy, by omega, hy2, by omega, ?_, pre ++ [x / y], m, by rw [List.length_append, hp]; rfl, by omega, ?_⟩
      · rw [ec, gcd_step hx (by omega), hg]
      · rw [hr', reg_pos hy0, ec, List.append_assoc]; rfl
  · rintro σ' G2 H2 w2 e2 ⟨x, y, t, rfl, hx, hy, hx2, hy2, hg, pre, n, hp, hn, hr'⟩
    exfalso
    have : (20000 : Int).toNat = 20000 := rfl
    omega
end
end K71
namespace K71
open PySem PySem.Spec PyProof.Rows L2 L3
section
variable {P : Program} {w : World} {K : Fg} {mg : Str → Option Value} {base : Heap} {Z : Ad}
theorem ok_is_whole (T : Txt K mg Z) : FnOk P w K mg base (L2N.CX P w) 1 Z.f_is_whole Z.d_is_whole ["value"] (spR K 1 (R1 fun d => .ok (.bool (isW d)))) := by
  refine okN T.F_is_whole sc_is_whole spR_len (fun cdv A outer s H vs Q E hr h => ?_)
  refine ⟨_, (pss_one (ps_ret (pe_and (pe_callB call_isi (by rfl) T.z_isinstance (by decide +kernel) (pa_cons (pv 0) (pa_cons (pe_bltn (v := .ty "int") (by rfl) T.z_int (by decide +kernel) rfl) pa_nil))) (pe_one (pe_not (pe_callB call_isi (by rfl) T.z_isinstance (by decide +kernel) (pa_cons (pv 0) (pa_cons (pe_bltn (v := .ty "bool") (by rfl) T.z_bool (by decide +kernel) rfl) pa_nil)))))))), ?_⟩
  obtain ⟨G, ds, r, b, ha, _, ⟨d, rfl, rfl⟩, k⟩ := h
  obtain ⟨v, rfl, hv⟩ := rpa1 ha
  refine s_ret K (d := .bool (isW d)) b ?_ k
  rw [← isW_eq]
  exact ed_andV (ed_isi (ed_var rfl hv) (kb_int d)) fun _ => ed_notV (ed_isi (ed_var rfl hv) (kb_bool d))
end
end K71
namespace K71
open PySem PySem.Spec PyProof.Rows L2 L3 TF
section
variable {P : Program} {w : World} {K : Fg} {mg : Str → Option Value} {base : Heap} {Z : Ad}
def rCheck (ok : PyData → PyData → Option (Int × Int)) (C : Addr) : List PyData → Except Addr PyData → Prop := R2' fun p q => match ok p q with | some _ => .ok .none | none => .error C
theorem wh {d : PyData} (h : isW d = true) : ∃ i, d = .int i := by
  cases d with
  | int i => exact ⟨i, rfl⟩
  | _ => cases h
theorem ok_check_signed (T : Txt K mg Z) : FnOk P w K mg base (L2N.CX P w) 2 Z.f_check_signed Z.d_check_signed ["p", "e"] (spR K 2 (rCheck okSigned Z.C_BadSignedFraction)) := by
  refine okN T.F_check_signed sc_check_signed spR_len (fun cdv A outer s H vs Q E hr h => ?_)
  refine ⟨_, (pss_cons (ps_if (PW.pt (pw_or (pt_not (pt_val (pe_call (ok_is_whole T) (hr.mono (by first | decide | omega)) rfl T.m_is_whole T.F_is_whole.kp T.b_is_whole .nil passN (pa_cons (pv 0) pa_nil)))) (pw_or (pt_not (pt_val (pe_call (ok_is_whole T) (hr.mono (by first | decide | omega)) rfl T.m_is_whole T.F_is_whole.kp T.b_is_whole .nil passN (pa_cons (pv 1) pa_nil)))) (pw_or (pt_not (pt_chain op_le op_le pe_int (pv 0) (gl_int T.m_MOST_FRACTION))) (pw_or1 (pt_cmpR op_ge (pe_callB call_abs (by rfl) T.z_abs (by decide +kernel) (pa_cons (pv 1) pa_nil)) (pv 0) (nomark _))))))) (pss_one (L2N.ps_raise rfl (L2N.takes_of rfl rfl rfl rfl) (L2N.pmk_own PySem.F.excBase_ValueError T.c_BadSignedFraction.x T.m_BadSignedFraction T.c_BadSignedFraction.k (raises_own T.c_BadSignedFraction.b T.c_BadSignedFraction.t) rfl))) pss_nil)
    (pss_one (ps_if (PW.pt (pw_or (pt_cmpR (op_neD hr.units) (pe_callBfun cr_gcd (by rfl) T.m_gcd (pa_cons (pv 0) (pa_cons (pv 1) pa_nil))) pe_int (nomark _)) (pw_or1 (pt_cmpR (op_eqD hr.units) (pe_op op_mod (pe_op op_add (pv 0) (pv 1)) pe_int) pe_int (nomark _))))) (pss_one (L2N.ps_raise rfl (L2N.takes_of rfl rfl rfl rfl) (L2N.pmk_own PySem.F.excBase_ValueError T.c_BadSignedFraction.x T.m_BadSignedFraction T.c_BadSignedFraction.k (raises_own T.c_BadSignedFraction.b T.c_BadSignedFraction.t) rfl))) pss_nil))), ?_⟩
  obtain ⟨G, ds, r, b, ha, _, ⟨p, q, rfl, er⟩, k⟩ := h
  obtain ⟨v, u, rfl, hv, hu⟩ := rpa2 ha
  have bad : okSigned p q = none → ∀ H1, Same H H1 → E (.ref Z.C_BadSignedFraction) none H1 := fun e => by
    simp only [e] at er; subst er; exact k
  have good : okSigned p q ≠ none → ∀ v G1 H1, Wk G H G1 H1 → Rp K G1 v .none → Q v H1 := fun e => by
    cases e1 : okSigned p q with
    | none => exact absurd e1 e
    | some z => simp only [e1] at er; subst er; exact k
  clear k er
  by_cases hw : isW p = true ∧ isW q = true
  · obtain ⟨i, rfl⟩ := wh hw.1
    obtain ⟨j, rfl⟩ := wh hw.2
    cases hv; cases hu
    refine q_when K (c := !(decide (1 ≤ i) && decide (i ≤ 1000000000)) || decide (i ≤ ab j)) b (EvB.to (eb_or (eb_not (eb_val (ed_call (ea_cons (ed_var rfl (.int i)) ea_nil) rfl ⟨_, rfl, rfl⟩))) fun e1 => eb_or (eb_not (eb_val (ed_call (ea_cons (ed_var rfl (.int j)) ea_nil) rfl ⟨_, rfl, rfl⟩)))
      fun e2 => eb_or (eb_not (eb_test (ed_chain ed_int (ed_vI rfl) fun _ => ed_int))) fun _ => eb_test (ed_ge (ed_abs (ed_vI rfl)) (ed_vI rfl))) rfl) (fun e G1 H1 w1 => bad ?_ H1 w1.h) fun e G1 H1 w1 => ?_
    · rw [okSigned_int, if_neg]
      simp only [Bool.or_eq_true, Bool.not_eq_true', Bool.and_eq_false_iff, decide_eq_false_iff_not, decide_eq_true_eq] at e
      omega
    · simp only [Bool.or_eq_false_iff, Bool.not_eq_false', Bool.and_eq_true, decide_eq_true_eq, decide_eq_false_iff_not] at e
      refine s_when K (c := !(((Nat.gcd i.natAbs j.natAbs : Nat) : Int) == 1) || ((i + j) % 2 == 0)) w1.b
        (eb_or (eb_test (ed_neI (ed_gcd (ed_vI rfl) (ed_vI rfl)) ed_int)) fun _ => eb_test (ed_eqI (ed_modP (ed_add (ed_vI rfl) (ed_vI rfl)) ed_int (by decide)) ed_int))
        (fun e2 G2 H2 w2 => bad ?_ H2 (w1.h.trans w2.h)) fun e2 G2 H2 w2 => good ?_ _ _ _ (w1.trans w2) .non
      · rw [okSigned_int, if_neg]
        simp only [Bool.or_eq_true, Bool.not_eq_true', beq_iff_eq, beq_eq_false_iff_ne] at e2
        omega
      · rw [okSigned_int, if_pos]
        · simp
        · simp only [Bool.or_eq_false_iff, Bool.not_eq_false', beq_iff_eq, beq_eq_false_iff_ne] at e2
          omega
  · have e0 : okSigned p q = none := by
      cases p <;> cases q <;> first | rfl | (exact absurd ⟨rfl, rfl⟩ hw)
    refine q_when K (c := !(isW p) || (!(isW q) || true)) b (eb_or (eb_not (eb_val (ed_call (ea_cons (ed_var rfl hv) ea_nil) rfl ⟨_, rfl, rfl⟩))) fun e1 => eb_or (eb_not (eb_val (ed_call (ea_cons (ed_var rfl hu) ea_nil) rfl ⟨_, rfl, rfl⟩)))
      fun e2 => absurd ⟨by simpa using e1, by simpa using e2⟩ hw) (fun _ G1 H1 w1 => bad e0 H1 w1.h) fun e => ?_
    simp at e
end
end K71
namespace K71
open PySem PySem.Spec PyProof.Rows L2 L3 TF
section
variable {P : Program} {w : World} {K : Fg} {mg : Str → Option Value} {base : Heap} {Z : Ad}
theorem ok__law_put (T : Txt K mg Z) : FnOk P w K mg base (L2N.CX P w) 1 Z.f__law_put Z.d__law_put ["found", "power", "number"] spPut := by
  refine okN T.F__law_put sc__law_put spPut_len (fun cdv A outer s H vs Q E hr h => ?_)
  refine ⟨_, (pss_one (ps_dput (hu_of hr) (pv 0) (pv 1) (pe_op op_add (pe_dget2 (hu_of hr) (pv 0) (pv 1) pe_int ⟨rfl, rfl, rfl, rfl⟩) (pv 2)) rfl)), ?_⟩
  obtain ⟨a, m, k, c, rfl, ha, hl, q⟩ := h
  have b : Same (fun _ => none) H := fun _ _ e => nomatch e
  refine s_dput K (m := m) (k := k) (c := co m k + c) b (ed_add (ed_pget2O rfl (.inl ha) (ed_vI rfl) ed_int) (ed_vI rfl)) rfl rfl ha (ed_vI rfl) hl fun G1 H1 w1 _ => ?_
  refine q _ (fun x u hx e => ?_) upd_same
  rw [upd_ne hx]; exact w1.h x u e
def rProd : List PyData → Except Addr PyData → Prop := fun ds r => ∃ p q : PI, ds = [pD p, pD q] ∧ (keysI p).Nodup ∧ (keysI q).Nodup ∧ p.length * q.length ≤ 500000 ∧ ((∀ u ∈ p, u.2.natAbs < 2 ^ 60) ∨ ∀ v ∈ q, v.2.natAbs < 2 ^ 60) ∧ r = .ok (pD (prodF p q))
theorem ok__law_product (T : Txt K mg Z) : FnOk P w K mg base (L2N.CX P w) 2 Z.f__law_product Z.d__law_product ["one", "other"] (spR K 2 rProd) := by
  refine okN T.F__law_product sc__law_product spR_len (fun cdv A outer s H vs Q E hr h => ?_)
  refine ⟨_, (pss_cons (ps_set (i := 2) sc__law_product.nd rfl (by first | exact Or.inl rfl | exact Or.inr rfl) (pe_dnewK))
    (pss_cons (ps_for (passes_of rfl) rfl (pi_keys (pv 0)) (pg_name (i := 3) sc__law_product.nd rfl (by first | exact Or.inl rfl | exact Or.inr rfl)) (pss_one (ps_for (passes_of rfl) rfl (pi_keys (pv 1)) (pg_name (i := 4) sc__law_product.nd rfl (by first | exact Or.inl rfl | exact Or.inr rfl)) (pss_one (ps_expr (pe_call (ok__law_put T) (hr.mono (by first | decide | omega)) rfl T.m__law_put T.F__law_put.kp T.b__law_put .nil passN (pa_cons (pv 2) (pa_cons (pe_op op_add (pv 3) (pv 4)) (pa_cons (pe_op op_mul (pe_dget (hu_of hr) (pv 0) (pv 3) (fun _ _ => rfl)) (pe_dget (hu_of hr) (pv 1) (pv 4) (fun _ _ => rfl))) pa_nil)))))))))
    (pss_one (ps_ret (pe_frz (pv 2)))))), ?_⟩
  obtain ⟨G, ds, r, b, ha, _, ⟨p, q, rfl, n1, n2, hl, hm, rfl⟩, k⟩ := h
  obtain ⟨v, u, rfl, hv, hu⟩ := rpa2 ha
  refine q_dnew b fun a h0 => ?_
  have w0 : Wk G H G (upd H a (.dK [])) := Wk.own b h0
  refine q_forK K (fun i σ G1 H1 => ∃ t1 t2, σ = [some v, some u, some (.ref a), t1, t2] ∧ G1 a = none ∧ H1 a = some (.dK (pV ((p.take i).foldl (fun f u => putsF f u.1 u.2 q) []))) ∧ ((p.take i).foldl (fun f u => putsF f u.1 u.2 q) []).length ≤ i * q.length) w0 (ed_var rfl hv) (fun G1 H1 w1 => ?_) ?_ ?_
  · have k1 := w1.keep (o := .dK []) upd_same (none_of_same b h0)
    exact ⟨none, none, rfl, k1.2, k1.1, Nat.zero_le _⟩
  · rintro i c σ' G1 H1 hc w1 e1 ⟨t1, t2, rfl, g1, h1, l1⟩
    have hlt : i < p.length := (List.getElem?_eq_some_iff.mp hc).1
    have hi : i * q.length + q.length ≤ 500000 := by
      have : (i + 1) * q.length ≤ p.length * q.length := Nat.mul_le_mul_right _ hlt
      rw [Nat.succ_mul] at this; omega
    have hcm := List.mem_of_getElem? hc
    generalize hf : (p.take i).foldl (fun f u => putsF f u.1 u.2 q) [] = f at h1 l1
    refine s_forK K (fun j σ G2 H2 => ∃ t2, σ = [some v, some u, some (.ref a), some (.int c.1), t2] ∧ G2 a = none ∧ H2 a = some (.dK (pV (putsF f c.1 c.2 (q.take j)))) ∧ (putsF f c.1 c.2 (q.take j)).length ≤ i * q.length + j) w1 (ed_var rfl (dp_up e1 hu)) (fun G2 H2 w2 => ?_) ?_ ?_
    · have k2 := w2.keep h1 g1
      exact ⟨t2, rfl, k2.2, k2.1, l1⟩
    · rintro j d σ2 G2 H2 hd w2 e2 ⟨t2, rfl, g2, h2, l2⟩
      have hjt : j < q.length := (List.getElem?_eq_some_iff.mp hd).1
      have hdm := List.mem_of_getElem? hd
      refine s_lput K w2 h0 rfl g2 h2 (by omega) (ed_add (ed_vI rfl) (ed_vI rfl)) (ed_mul (ed_pget (ed_var rfl (dp_up (e1.trans e2) hv)) (ed_vI rfl) (valI_mem n1 hcm)) (ed_pget (ed_var rfl (dp_up (e1.trans e2) hu)) (ed_vI rfl) (valI_mem n2 hdm)) ?_) fun G3 H3 w3 e3 g3 h3 => ?_
      · have e60 : (2 : Nat) ^ 60 = 1152921504606846976 := by decide
        rcases hm with hm | hm
        · have := hm c hcm; left; omega
        · have := hm d hdm; right; omega
      · have et : putsF f c.1 c.2 (q.take (j + 1)) = putI (putsF f c.1 c.2 (q.take j)) (c.1 + d.1) (co (putsF f c.1 c.2 (q.take j)) (c.1 + d.1) + c.2 * d.2) := by
          unfold putsF
          rw [List.take_add_one, hd]
          show (q.take j ++ [d]).foldl _ f = _
          rw [List.foldl_append]; rfl
        refine ⟨G3, w3, e3, some (.int d.1), rfl, g3, by rw [et]; exact h3, ?_⟩
        rw [et]
        have := putI_len (putsF f c.1 c.2 (q.take j)) (c.1 + d.1) (co (putsF f c.1 c.2 (q.take j)) (c.1 + d.1) + c.2 * d.2)
        omega
    · rintro σ2 G2 H2 w2 e2 ⟨t2, rfl, g2, h2, l2⟩
      rw [List.take_length] at h2 l2
      have et : (p.take (i + 1)).foldl (fun f u => putsF f u.1 u.2 q) [] = putsF f c.1 c.2 q := by
        rw [List.take_add_one, hc]
        show (p.take i ++ [c]).foldl _ [] = _
        rw [List.foldl_append, hf]; rfl
      exact ⟨G2, w2, e2, _, _, rfl, g2, by rw [et]; exact h2, by rw [et, Nat.succ_mul]; exact l2⟩
  · rintro σ' G1 H1 w1 e1 ⟨t1, t2, rfl, g1, h1, l1⟩
    rw [List.take_length] at h1
    exact s_retF K w1 rfl h0 g1 h1 fun v G2 H2 w2 hv => k v G2 H2 w2 hv
theorem fm_dict {m : PI} (nd : (keysI m).Nodup) (pp : PyData → Bool) (hp : ∀ c ∈ m, pp (.int c.1) = decide (c.2 ≠ 0)) (ff : PyData → PyData) (hf : ∀ c ∈ m, ff (.int c.1) = .tuple [.int c.1, .int c.2]) :
    fm pp ff (kD2 m) = (m.filter fun c => decide (c.2 ≠ 0)).map fun c => .tuple [.int c.1, .int c.2] := by
  have : ∀ (l : PI), (∀ c ∈ l, c ∈ m) → fm pp ff (kD2 l) = (l.filter fun c => decide (c.2 ≠ 0)).map fun c => .tuple [.int c.1, .int c.2] := by
    intro l
    induction l with
    | nil => intro _; rfl
    | cons c l ih =>
      intro h
      have hc := h c (List.mem_cons_self ..)
      have ih' := ih fun d hd => h d (List.mem_cons_of_mem _ hd)
      show ((PyData.int c.1 :: kD2 l).filter pp).map ff = _
      rw [List.filter_cons, List.filter_cons, hp c hc]
      by_cases hz : c.2 ≠ 0
      · rw [if_pos (decide_eq_true hz), if_pos (decide_eq_true hz), List.map_cons, List.map_cons, hf c hc]
        congr 1
      · rw [if_neg (by simpa using hz), if_neg (by simpa using hz)]
        exact ih'
  exact this m fun c h => h
def rSum : List PyData → Except Addr PyData → Prop := fun ds r => ∃ p q : PI, ds = [pD p, pD q] ∧ (keysI p).Nodup ∧ (keysI q).Nodup ∧ p.length + q.length ≤ 500000 ∧ r = .ok (pD (sumF p q))
def pairD (m : PI) : PyData → PyData
  | .int k => .tuple [.int k, .int (co m k)]
  | d => d
theorem pairD_mem {m : PI} (nd : (keysI m).Nodup) {c : Int × Int} (hc : c ∈ m) : pairD m (.int c.1) = .tuple [.int c.1, .int c.2] := by
  show PyData.tuple [.int c.1, .int (co m c.1)] = _
  rw [co_of_mem nd (show (c.1, c.2) ∈ m from hc)]
theorem ok__law_sum_of (T : Txt K mg Z) : FnOk P w K mg base (L2N.CX P w) 2 Z.f__law_sum_of Z.d__law_sum_of ["one", "other"] (spR K 2 rSum) := by
  refine okN T.F__law_sum_of sc__law_sum_of spR_len (fun cdv A outer s H vs Q E hr h => ?_)
  refine ⟨_, (pss_cons (ps_set (i := 2) sc__law_sum_of.nd rfl (by first | exact Or.inl rfl | exact Or.inr rfl) (pe_callTy (cr_dictP rfl) (by rfl) T.z_dict (by decide +kernel) (pa_cons (pe_lc (own := [("power", 3)]) rfl sc__law_sum_of.nd (pi_keys (pv 0)) (blkOk_by (own := [("power", 3)]) (N := ["one", "other", "found", "power"]) (sc := defScope s__law_sum_of) (by decide +kernel)) (fun _ _ _ _ _ => (pg_name (i := 3) sc__law_sum_of.nd rfl (by first | exact Or.inl rfl | exact Or.inr rfl))) (fun _ _ _ _ _ => pts_nil) (fun _ _ _ _ _ => (pe_tup (pa_cons (pv 3) (pa_cons (pe_dget (hu_of hr) (pv 0) (pv 3) (fun _ _ => rfl)) pa_nil))))) pa_nil)))
    (pss_cons (ps_for (passes_of rfl) rfl (pi_keys (pv 1)) (pg_name (i := 3) sc__law_sum_of.nd rfl (by first | exact Or.inl rfl | exact Or.inr rfl)) (pss_one (ps_expr (pe_call (ok__law_put T) (hr.mono (by first | decide | omega)) rfl T.m__law_put T.F__law_put.kp T.b__law_put .nil passN (pa_cons (pv 2) (pa_cons (pv 3) (pa_cons (pe_dget (hu_of hr) (pv 1) (pv 3) (fun _ _ => rfl)) pa_nil)))))))
    (pss_one (ps_ret (pe_frz (pe_callTy (cr_dictP rfl) (by rfl) T.z_dict (by decide +kernel) (pa_cons (pe_lock (pe_lc (own := [("power", 3)]) rfl sc__law_sum_of.nd (pi_keys (pv 2)) (blkOk_by (own := [("power", 3)]) (N := ["one", "other", "found", "power"]) (sc := defScope s__law_sum_of) (by decide +kernel)) (fun _ _ _ _ _ => (pg_name (i := 3) sc__law_sum_of.nd rfl (by first | exact Or.inl rfl | exact Or.inr rfl))) (fun _ _ _ _ _ => (pts_one (pt_cmpR (show OpR _ (compareOp .NotEq) (rNeD K) from (op_neD hr.units)) (pe_dget (hu_of hr) (pv 2) (pv 3) (fun _ _ => rfl)) pe_int (nomark _)))) (fun _ _ _ _ _ => (pe_tup (pa_cons (pv 3) (pa_cons (pe_dget (hu_of hr) (pv 2) (pv 3) (fun _ _ => rfl)) pa_nil)))))) pa_nil))))))), ?_⟩
  obtain ⟨G, ds, r, b, ha, _, ⟨p, q, rfl, n1, n2, hl, rfl⟩, k⟩ := h
  obtain ⟨v, u, rfl, hv, hu⟩ := rpa2 ha
  refine q_dictO K (m := p) b (EvD.to (ed_lcK (fun _ => true) (pairD p) (ed_var rfl hv) (by omega) fun c hc G1 H1 w1 => turn_n rfl (EvD.to (ed_tup (ea_cons (ed_vI rfl) (ea_cons (ed_pget (ed_var rfl (dp_up w1.g hv)) (ed_vI rfl) (valI_mem n1 hc)) ea_nil))) (pairD_mem n1 hc).symm)) ?_) n1 fun a G1 H1 w1 h1 => ?_
  · rw [fm_true]
    congr 1
    unfold kD2
    rw [List.map_map]
    apply List.map_congr_left
    intro c hc
    exact pairD_mem n1 hc
  have h0 : H a = none := by
    cases e : H a with
    | none => rfl
    | some o => rw [w1.h a o e] at h1; cases h1
  have g1 := none_of_same w1.b h1
  have w2 : Wk G H G1 (upd H1 a (.dK (pV p))) := Wk.mut w1 h0 g1
  refine q_forK K (fun i σ G2 H2 => ∃ t, σ = [some v, some u, some (.ref a), t] ∧ G2 a = none ∧ H2 a = some (.dK (pV (addF p (q.take i)))) ∧ (addF p (q.take i)).length ≤ p.length + i) w2 (ed_var rfl (dp_up w1.g hu)) (fun G2 H2 w3 => ?_) ?_ ?_
  · have k2 := w3.keep (o := .dK (pV p)) upd_same g1
    exact ⟨_, rfl, k2.2, k2.1, Nat.le_refl _⟩
  · rintro i c σ' G2 H2 hc w3 e3 ⟨t, rfl, g2, h2, l2⟩
    have hlt : i < q.length := (List.getElem?_eq_some_iff.mp hc).1
    have hcm := List.mem_of_getElem? hc
    refine s_lput K w3 h0 rfl g2 h2 (by omega) (ed_vI rfl) (ed_pget (ed_var rfl (dp_up (w1.g.trans e3) hu)) (ed_vI rfl) (valI_mem n2 hcm)) fun G3 H3 w4 e4 g3 h3 => ?_
    have et : addF p (q.take (i + 1)) = putI (addF p (q.take i)) c.1 (co (addF p (q.take i)) c.1 + c.2) := by
      unfold addF
      rw [List.take_add_one, hc]
      show (q.take i ++ [c]).foldl _ p = _
      rw [List.foldl_append]; rfl
    refine ⟨G3, w4, e4, _, rfl, g3, by rw [et]; exact h3, ?_⟩
    rw [et]
    have := putI_len (addF p (q.take i)) c.1 (co (addF p (q.take i)) c.1 + c.2)
    omega
  · rintro σ' G2 H2 w3 e3 ⟨t, rfl, g2, h2, l2⟩
    rw [List.take_length] at h2 l2
    have nd := addF_nd q n1
    refine s_ret K (d := pD (sumF p q)) w3.b (ed_dictP (EvD.to (ed_lcKO (fun d => match d with | .int j => !(co (addF p q) j == 0) | _ => false) (pairD (addF p q)) rfl g2 h2 (by omega) fun c hc G3 H3 e4 b3 hr3 => turn_t rfl (eb_test (ed_neI (EvD.to (ed_pgetO rfl hr3 (ed_vI rfl) (valI_mem nd hc)) (by rw [← co_of_mem nd hc])) ed_int)) fun _ => EvD.to (ed_tup (ea_cons (ed_vI rfl) (ea_cons (ed_pgetO rfl hr3 (ed_vI rfl) (valI_mem nd hc)) ea_nil))) (pairD_mem nd hc).symm) ?_) (sumF_nd n1)) fun v G4 H4 w4 hv => k v G4 H4 (w3.trans w4) hv
    rw [fm_dict nd _ (fun c hc => ?_) _ fun c hc => ?_]
    · rfl
    · show (!(co (addF p q) c.1 == 0)) = _
      rw [co_of_mem nd hc]
      by_cases hz : c.2 = 0 <;> simp [hz]
    · exact pairD_mem nd hc
def rTold : List PyData → Except Addr PyData → Prop := fun ds r => ∃ p : PI, ds = [pD p] ∧ (keysI p).Nodup ∧ p.length ≤ 500000 ∧ (∀ c ∈ p, c.1.natAbs ≤ 100000) ∧ r = .ok (toldF p)
theorem ok__law_told (T : Txt K mg Z) : FnOk P w K mg base (L2N.CX P w) 1 Z.f__law_told Z.d__law_told ["found"] (spR K 1 rTold) := by
  refine okN T.F__law_told sc__law_told spR_len (fun cdv A outer s H vs Q E hr h => ?_)
  refine ⟨_, (pss_cons (ps_set (i := 1) sc__law_told.nd rfl (by first | exact Or.inl rfl | exact Or.inr rfl) (pe_callB cr_sortedI (by rfl) T.z_sorted (by decide +kernel) (pa_cons (pe_lc (own := [("power", 2)]) rfl sc__law_told.nd (pi_keys (pv 0)) (blkOk_by (own := [("power", 2)]) (N := ["found", "powers", "power"]) (sc := defScope s__law_told) (by decide +kernel)) (fun _ _ _ _ _ => (pg_name (i := 2) sc__law_told.nd rfl (by first | exact Or.inl rfl | exact Or.inr rfl))) (fun _ _ _ _ _ => (pts_one (pt_cmpR (show OpR _ (compareOp .NotEq) (rNeD K) from (op_neD hr.units)) (pe_dget (hu_of hr) (pv 0) (pv 2) (fun _ _ => rfl)) pe_int (nomark _)))) (fun _ _ _ _ _ => (pv 2))) pa_nil)))
    (pss_cons (ps_if (pt_not (pt_truth (pv 1) (by intro _; rfl))) (pss_one (ps_ret (pe_tup (pa_cons pe_int (pa_cons (pe_tup pa_nil) pa_nil))))) pss_nil)
    (pss_one (ps_ret (pe_tup (pa_cons (pe_ix ix_two (pv 1) pe_int (fun _ _ => rfl)) (pa_cons (pe_callTy call_tuple_of (by rfl) T.z_tuple (by decide +kernel) (pa_cons (pe_lc (own := [("power", 2)]) rfl sc__law_told.nd (pi_range2 (by rfl) T.z_range (pa_cons (pe_ix ix_two (pv 1) pe_int (fun _ _ => rfl)) (pa_cons (pe_op op_add (pe_ix ix_two (pv 1) (pe_un un_neg pe_int) (fun _ _ => rfl)) pe_int) pa_nil))) (blkOk_by (own := [("power", 2)]) (N := ["found", "powers", "power"]) (sc := defScope s__law_told) (by decide +kernel)) (fun _ _ _ _ _ => (pg_name (i := 2) sc__law_told.nd rfl (by first | exact Or.inl rfl | exact Or.inr rfl))) (fun _ _ _ _ _ => pts_nil) (fun _ _ _ _ _ => (pe_dget2 (hu_of hr) (pv 0) (pv 2) pe_int ⟨rfl, rfl, rfl, rfl⟩))) pa_nil)) pa_nil))))))), ?_⟩
  obtain ⟨G, ds, r, b, ha, _, ⟨p, rfl, nd, hl, hk, rfl⟩, k⟩ := h
  obtain ⟨v, rfl, hv⟩ := rpa1 ha
  refine q_set K (d := .list (iL (sortI (suppI p)))) b (ed_sorted (EvD.to (ed_lcK (fun d => match d with | .int j => !(co p j == 0) | _ => false) id (ed_var rfl hv) hl fun c hc G1 H1 w1 => turn_t rfl (eb_test (ed_neI (EvD.to (ed_pget (ed_var rfl (dp_up w1.g hv)) (ed_vI rfl) (valI_mem nd hc)) (by rw [← co_of_mem nd hc])) ed_int)) fun _ => ed_vI rfl) ?_)) fun x G1 H1 w1 hx => ?_
  · congr 1
    unfold fm suppI kD2 iL
    have : ∀ (l : PI), (∀ c ∈ l, c ∈ p) → ((l.map fun c => PyData.int c.1).filter fun d => match d with | .int j => !(co p j == 0) | _ => false) = ((l.filter fun c => decide (c.2 ≠ 0)).map Prod.fst).map PyData.int := by
      intro l
      induction l with
      | nil => intro _; rfl
      | cons c l ih =>
        intro h
        have hc := co_of_mem nd (show (c.1, c.2) ∈ p from h c (List.mem_cons_self ..))
        rw [List.map_cons, List.filter_cons, List.filter_cons, ih fun d hd => h d (List.mem_cons_of_mem _ hd)]
        by_cases hz : c.2 = 0
        · rw [if_neg (by simp [hc, hz]), if_neg (by simp [hz])]
        · rw [if_pos (by simp [hc, hz]), if_pos (by simp [hz])]; rfl
    rw [List.map_id]
    exact this p fun c h => h
  have hsm : ∀ k ∈ sortI (suppI p), k.natAbs ≤ 100000 := fun k hk' => by
    have := (sortI_perm _).mem_iff.mp hk'
    unfold suppI at this
    obtain ⟨z, hz, rfl⟩ := List.mem_map.mp this
    exact hk z (List.mem_filter.mp hz).1
  have et : toldF p = match sortI (suppI p) with
    | [] => .tuple [.int 0, .tuple []]
    | lo :: ps => .tuple [.int lo, .tuple ((rg lo ((ps.getLastD lo) + 1 - lo).toNat).map (coD p))] := rfl
  rw [et] at k
  generalize sortI (suppI p) = ps at hx hsm k
  refine q_when K (c := ps.isEmpty) w1.b (EvB.to (eb_not (eb_truL (ed_var rfl hx))) (by cases ps <;> rfl)) (fun e G2 H2 w2 => ?_) fun e G2 H2 w2 => ?_
  · cases ps with
    | nil => exact s_ret K w2.b (ed_tup (ea_cons ed_int (ea_cons (ed_tup ea_nil) ea_nil))) fun v G3 H3 w3 hv => k v G3 H3 ((w1.trans w2).trans w3) hv
    | cons lo rest => cases e
  · cases ps with
    | nil => cases e
    | cons lo rest =>
      have hx2 := dp_up w2.g hx
      have h1 : lo.natAbs ≤ 100000 := hsm lo (List.mem_cons_self ..)
      have h2 : (rest.getLastD lo).natAbs ≤ 100000 := by
        rcases List.eq_nil_or_concat rest with rfl | ⟨l, z, rfl⟩
        · exact h1
        · rw [List.concat_eq_append, List.getLastD_concat]
          exact hsm z (List.mem_cons_of_mem _ (by simp))
      have a0 : atI (iL (lo :: rest)) 0 = some (.int lo) := by
        unfold atI ixN
        rw [if_pos (by decide), if_pos (by rw [len_iL, List.length_cons]; omega)]
        rfl
      have a1 : atI (iL (lo :: rest)) (-1) = some (.int (rest.getLastD lo)) := by
        rcases List.eq_nil_or_concat rest with rfl | ⟨l, z, rfl⟩
        · exact L2.atI_last [] (PyData.int lo)
        · rw [List.concat_eq_append, List.getLastD_concat]
          unfold iL
          rw [List.map_cons, List.map_append]
          exact L2.atI_last (PyData.int lo :: l.map PyData.int) (PyData.int z)
      refine s_ret K w2.b (ed_tup (ea_cons (ed_ix2L (ed_var rfl hx2) ed_int a0) (ea_cons (ed_tupL (EvD.to (ed_lcR2 (fun _ => true) (coD p) (ea_cons (ed_ix2L (ed_var rfl hx2) ed_int a0) (ea_cons (ed_add (ed_ix2L (ed_var rfl hx2) (ed_neg ed_int) a1) ed_int) ea_nil)) ⟨by omega, by omega, by omega, by omega⟩ fun i i0 i1 G3 H3 w3 => turn_n rfl (ed_pget2 (ed_var rfl (dp_up ((w1.trans w2).trans w3).g hv)) (ed_vI rfl) ed_int)) (by rw [fm_true]))) ea_nil))) fun v G3 H3 w3 hv => k v G3 H3 ((w1.trans w2).trans w3) hv
end
end K71
namespace K71
open PySem PySem.Spec PyProof.Rows L2 L3 TF
section
variable {P : Program} {w : World} {K : Fg} {mg : Str → Option Value} {base : Heap} {Z : Ad}
/-- p up to most, q below p without a common divisor -/
def spPair (K : Fg) : Sp := fun vs H Q _ => ∃ (G : Hp) (a : Addr) (most : Int), vs = [.ref a, .int most] ∧ Same G H ∧ Pool K G H a ∧ 2 ≤ most ∧ most ≤ 300000 ∧
  ∀ v p q G1 H1, 2 ≤ p → p ≤ most → 1 ≤ q → q < p → Nat.gcd p.natAbs q.natAbs = 1 → Wp a G H G1 H1 → Pool K G1 H1 a → Rp K G1 v (.tuple [.int p, .int q]) → Q v H1
theorem mem_fm {p : PyData → Bool} {f : PyData → PyData} {ds : List PyData} {e : PyData} (h : e ∈ fm p f ds) : ∃ d ∈ ds, p d = true ∧ f d = e := by
  unfold fm at h
  obtain ⟨d, hd, rfl⟩ := List.mem_map.mp h
  obtain ⟨h1, h2⟩ := List.mem_filter.mp hd
  exact ⟨d, h1, h2, rfl⟩
theorem mem_rg {lo : Int} {n : Nat} {d : PyData} (h : d ∈ rg lo n) : ∃ i : Int, d = .int i ∧ lo ≤ i ∧ i < lo + n := by
  unfold rg at h
  obtain ⟨i, hi, rfl⟩ := List.mem_map.mp h
  have := List.mem_range.mp hi
  exact ⟨_, rfl, by omega, by omega⟩
theorem rg_mem {lo : Int} {n : Nat} {i : Int} (h1 : lo ≤ i) (h2 : i < lo + n) : PyData.int i ∈ rg lo n := by
  unfold rg
  exact List.mem_map.mpr ⟨(i - lo).toNat, List.mem_range.mpr (by omega), by congr 1; omega⟩
theorem fm_mem {p : PyData → Bool} {f : PyData → PyData} {ds : List PyData} {d : PyData} (h : d ∈ ds) (hp : p d = true) : f d ∈ fm p f ds := by
  unfold fm; exact List.mem_map.mpr ⟨d, List.mem_filter.mpr ⟨h, hp⟩, rfl⟩
def unitTo (p : Int) : PyData → Bool
  | .int q => ((Nat.gcd p.natAbs q.natAbs : Nat) : Int) == 1
  | _ => false
theorem small200 {i : Int} (h : i.natAbs < 2 ^ 60) : i.natAbs < 2 ^ 200 := Nat.lt_of_lt_of_le h (Nat.pow_le_pow_right (by decide) (by decide))
theorem ok__law_pair (T : Txt K mg Z) : FnOk P w K mg base (L2N.CX P w) 4 Z.f__law_pair Z.d__law_pair ["pool", "most"] (spPair K) := by
  refine okN T.F__law_pair sc__law_pair (fun vs H Q E h => by obtain ⟨_, _, _, rfl, _⟩ := h; rfl) (fun cdv A outer s H vs Q E hr h => ?_)
  refine ⟨_, (pss_cons (ps_set (i := 2) sc__law_pair.nd rfl (by first | exact Or.inl rfl | exact Or.inr rfl) (pe_op op_add pe_int (pe_call (ok__law_take T) (hr.mono (by first | decide | omega)) rfl T.m__law_take T.F__law_take.kp T.b__law_take .nil passN (pa_cons (pv 0) (pa_cons (pe_op op_sub (pv 1) pe_int) pa_nil)))))
    (pss_cons (ps_setLc (i := 3) (own := [("q", 4)]) rfl sc__law_pair.nd rfl rfl (sw_true rfl rfl rfl (by decide +kernel)) (pi_range2 (by rfl) T.z_range (pa_cons pe_int (pa_cons (pv 2) pa_nil))) (blkOk_by (own := [("q", 4)]) (N := ["pool", "most", "p", "some", "q"]) (sc := defScope s__law_pair) (by decide +kernel)) (fun _ _ _ _ _ => (pg_name (i := 4) sc__law_pair.nd rfl (by first | exact Or.inl rfl | exact Or.inr rfl))) (fun _ _ _ _ _ => (pts_one (pt_cmpR (show OpR _ (compareOp .Eq) (rEqD K) from (op_eqD hr.units)) (pe_call (ok__law_common T) (hr.mono (by first | decide | omega)) rfl T.m__law_common T.F__law_common.kp T.b__law_common .nil passN (pa_cons (pv 2) (pa_cons (pv 4) pa_nil))) pe_int (nomark _)))) (fun _ _ _ _ _ => (pv 4)))
    (pss_one (ps_ret (pe_tup (pa_cons (pv 2) (pa_cons (pe_call (ok__law_pick T) (hr.mono (by first | decide | omega)) rfl T.m__law_pick T.F__law_pick.kp T.b__law_pick .nil passN (pa_cons (pv 0) (pa_cons (pv 3) pa_nil))) pa_nil))))))), ?_⟩
  obtain ⟨G, a, most, rfl, b, hp, m0, m1, k⟩ := h
  refine ⟨_, rfl, _, rfl, _, _, rfl, rfl, G, a, most - 1, rfl, b, hp, by omega, by omega, fun z G1 H1 z0 z1 w1 p1 => ⟨_, _, rfl, rfl, ?_⟩⟩
  have e60 : (2 : Nat) ^ 60 = 1152921504606846976 := by decide
  refine q_set K (d := .list (fm (unitTo (2 + z)) id (rg 1 (2 + z - 1).toNat))) w1.b (ed_lcR2 _ _ (ea_cons ed_int (ea_cons (ed_vI rfl) ea_nil)) ⟨by decide, by decide, by omega, by omega⟩ fun i i0 i1 G2 H2 w2 => ?_) fun x G3 H3 w3 hx => ?_
  · refine turn_t rfl (eb_test (ed_eqI (ed_call (ea_cons (ed_vI rfl) (ea_cons (ed_vI rfl) ea_nil)) rfl ⟨_, _, rfl, small200 (by omega), small200 (by omega), rfl⟩) ed_int)) fun _ => ed_vI rfl
  · have one : PyData.int 1 ∈ fm (unitTo (2 + z)) id (rg 1 (2 + z - 1).toNat) := fm_mem (f := id) (rg_mem (by omega) (by omega)) (by simp [unitTo])
    refine ⟨_, rfl, _, rfl, _, rfl, G3, a, x, _, _, rfl, w3.b, p1.up w3, hx, .inl rfl, List.ne_nil_of_mem one, ?_, fun v e G4 H4 he w4 p4 hv => ⟨by show 2 ≤ sizeLine; decide, fun l hl => ?_⟩⟩
    · have := fm_len (unitTo (2 + z)) id (rg 1 (2 + z - 1).toNat)
      rw [rg_len] at this; omega
    · obtain ⟨d, hd, hu, rfl⟩ := mem_fm he
      obtain ⟨i, rfl, i0, i1⟩ := mem_rg hd
      have wn := Wk.new (o := .tup [.int (2 + z), v]) w4.b hl
      have hg : Nat.gcd (2 + z).natAbs i.natAbs = 1 := by
        have : (((Nat.gcd (2 + z).natAbs i.natAbs : Nat) : Int) == 1) = true := hu
        simp at this; omega
      refine k _ (2 + z) i _ _ (by omega) (by omega) i0 (by omega) hg ((w1.trans w3.wp).trans (w4.trans wn.wp)) (p4.up wn) ?_
      exact .tup (SqT.of upd_same) (.cons (.int _) (.cons (dp_up wn.g hv) .nil))
def PairM (m : Int) (x y : PyData) : Prop := ∃ p q : Int, x = .int p ∧ y = .int q ∧ 2 ≤ p ∧ p ≤ m ∧ 1 ≤ q ∧ q < p ∧ Nat.gcd p.natAbs q.natAbs = 1
theorem ep_pairM {a : Addr} {σ : L2.St} {G H : Hp} {i : Nat} {m : Int} {E : XK} {tb : TE} (hs : σ[i]? = some (some (.ref a))) (hb : EvP K a tb σ G H (· = .int m)) (h0 : 2 ≤ m) (h1 : m ≤ 300000) :
    EvP K a (tCall (spPair K) [] E (tCons (tVar i) (tCons tb tNil))) σ G H (fun d => ∃ x y, d = .tuple [x, y] ∧ PairM m x y) := fun G1 H1 w p Q q =>
  ⟨_, hs, hb G1 H1 w p _ fun d x G2 H2 s w2 p2 hx => by
    subst s
    cases hx
    exact ⟨G2, a, m, rfl, w2.b, p2, h0, h1, fun v x y G3 H3 a1 a2 a3 a4 a5 w3 p3 r => q _ v G3 H3 ⟨_, _, rfl, x, y, rfl, rfl, a1, a2, a3, a4, a5⟩ (w2.trans w3) p3 r⟩⟩
end
end K71
namespace K71
open PySem PySem.Spec PyProof.Rows L2 L3 TF
section
variable {P : Program} {w : World} {K : Fg} {mg : Str → Option Value} {base : Heap} {Z : Ad}
/-- of p + e odd: the first 300 numbers of the even row -/
def rLEven : List PyData → Except Addr PyData → Prop := fun ds r => ∃ p e, ds = [.int p, .int e] ∧ p.natAbs ≤ 1000000000 ∧ e.natAbs ≤ 1000000000 ∧ (p + e) % 2 = 1 ∧ r = .ok (.tuple (iL (evn 300 p e)))
theorem evn_len : ∀ (n : Nat) (p e : Int), (evn n p e).length ≤ n
  | 0, _, _ => Nat.le_refl 0
  | n + 1, p, e => by
    by_cases he : e = 0
    · subst he; rw [evn_zero]; exact Nat.zero_le _
    · rw [evn_pos he, List.length_cons]; have := evn_len n e (p - evPart p e * e); omega
theorem ok__law_even (T : Txt K mg Z) : FnOk P w K mg base (L2N.CX P w) 1 Z.f__law_even Z.d__law_even ["p", "e"] (spR K 2 rLEven) := by
  refine okN T.F__law_even sc__law_even spR_len (fun cdv A outer s H vs Q E hr h => ?_)
  refine ⟨_, (pss_cons (ps_set (i := 2) sc__law_even.nd rfl (by first | exact Or.inl rfl | exact Or.inr rfl) (pe_lst pa_nil))
    (pss_cons (ps_for (passes_of rfl) rfl (pi_range1 (by rfl) T.z_range (pa_cons pe_int pa_nil)) (pg_name (i := 3) sc__law_even.nd rfl (by first | exact Or.inl rfl | exact Or.inr rfl)) (pss_cons (ps_if (pt_cmpR (op_eqD hr.units) (pv 1) pe_int (nomark _)) (pss_one ps_break) pss_nil)
    (pss_cons (ps_par (i := 4) (j := 5) (by rfl) sc__law_even.nd rfl rfl (by decide) rfl rfl (pa_cons pe_non (pa_cons (pe_callTy call_int1 (by rfl) T.z_int (by decide +kernel) (pa_cons (pe_op op_fdivN (pv 0) (pv 1)) pa_nil)) pa_nil)) (by rfl))
    (pss_cons (ps_for (passes_of rfl) rfl (pi_tup (pe_tup (pa_cons (pv 5) (pa_cons (pe_op op_add (pv 5) pe_int) pa_nil)))) (pg_name (i := 6) sc__law_even.nd rfl (by first | exact Or.inl rfl | exact Or.inr rfl)) (pss_one (ps_if (PW.pt (pw_and (pt_cmpR (op_eqD hr.units) (pe_op op_mod (pv 6) pe_int) pe_int (nomark _)) (pw_and1 (PW.pt (pw_or (pt_cmpR op_isN (pv 4) pe_non (nomark _)) (pw_or1 (pt_cmpR op_lt (pe_callB call_abs (by rfl) T.z_abs (by decide +kernel) (pa_cons (pe_op op_sub (pv 0) (pe_op op_mul (pv 6) (pv 1))) pa_nil)) (pe_callB call_abs (by rfl) T.z_abs (by decide +kernel) (pa_cons (pe_op op_sub (pv 0) (pe_op op_mul (pv 4) (pv 1))) pa_nil)) (nomark _)))))))) (pss_one (ps_set (i := 4) sc__law_even.nd rfl (by first | exact Or.inl rfl | exact Or.inr rfl) (pv 6))) pss_nil)))
    (pss_cons (ps_expr (pe_bm PySem.F.plainAttrs_list PySem.F.slot_list_append PySem.F.type_list_append mt_append (pv 2) (pa_cons (pv 4) pa_nil)))
    (pss_one (ps_par (i := 0) (j := 1) (by rfl) sc__law_even.nd rfl rfl (by decide) rfl rfl (pa_cons (pv 1) (pa_cons (pe_op op_sub (pv 0) (pe_op op_mul (pv 4) (pv 1))) pa_nil)) (by rfl))))))))
    (pss_one (ps_ret (pe_callTy call_tuple_of (by rfl) T.z_tuple (by decide +kernel) (pa_cons (pv 2) pa_nil)))))), ?_⟩
  obtain ⟨G, ds, r, b, ha, _, ⟨p, e, rfl, hp, he, ho, rfl⟩, k⟩ := h
  obtain ⟨v, u, rfl, hv, hu⟩ := rpa2 ha
  cases hv; cases hu
  refine q_new b fun f hf => ?_
  have w0 : Wk G H G (upd H f (.lst [])) := Wk.own b hf
  have fin : ∀ xs (σ : L2.St) G1 H1, σ[2]? = some (some (.ref f)) → xs = evn 300 p e → Wk G H G1 H1 → G1 f = none → H1 f = some (.lst (xs.map V.int)) → tRet (tCB (rTupOf K) (tCons (tVar 2) tNil)) { nx := fun _ H' => Q .non H', rt := Q } σ H1 := by
    intro xs σ G1 H1 hs e w1 g1 h1
    subst e
    exact s_ret K w1.b (ed_tupO hs h1 (iL_dpa _)) fun v G3 H3 w3 r => k v G3 H3 (w1.trans w3) r
  refine q_forR1 K (fun i σ G1 H1 => ∃ p' e' t y1 y2 y3 xs, σ = [some (.int p'), some (.int e'), some (.ref f), t, y1, y2, y3] ∧ p'.natAbs ≤ 1000000000 ∧ e'.natAbs ≤ 1000000000 ∧ (p' + e') % 2 = 1 ∧ xs.length = i ∧ i ≤ 300 ∧ xs ++ evn (300 - i) p' e' = evn 300 p e ∧ G1 f = none ∧ H1 f = some (.lst (xs.map V.int)))
    w0 (ea_cons ed_int ea_nil) (by decide) (fun G1 H1 w1 => ?_) ?_ ?_
  · have k1 := w1.keep (o := .lst []) upd_same (none_of_same b hf)
    exact ⟨p, e, none, none, none, none, [], rfl, hp, he, ho, rfl, by decide, rfl, k1.2, k1.1⟩
  · rintro i σ' G1 H1 hi w1 e1 ⟨p', e', t, y1, y2, y3, xs, rfl, hp', he', ho', hxl, hi6, hx, gf, hf1⟩
    by_cases he0 : e' = 0
    · subst he0
      refine q_when K (c := true) w1.b (EvB.to (eb_test (ed_eqI (ed_vI rfl) ed_int)) rfl) (fun _ G3 H3 w3 => ?_) fun e => nomatch e
      rw [evn_zero, List.append_nil] at hx
      have k3 := w3.keep hf1 gf
      exact fin xs _ G3 H3 rfl hx (w1.trans w3) k3.2 k3.1
    · refine q_when K (c := false) w1.b (EvB.to (eb_test (ed_eqI (ed_vI rfl) ed_int)) (by simpa using he0)) (fun e => nomatch e) fun _ G3 H3 w3 => ?_
      have fb := fdiv_bound p' he0
      obtain ⟨r1, r2⟩ := evPart_rest he0 ho'
      have hpart : (evPart p' e').natAbs ≤ 1000000002 := by unfold evPart; split <;> omega
      obtain ⟨n, hn⟩ : ∃ n, 300 - i = n + 1 := ⟨300 - i - 1, by omega⟩
      refine q_par K (d1 := .none) (d2 := .int (p'.fdiv e')) w3.b (ea_cons ed_non (ea_cons (ed_toint (ed_div (ed_vI rfl) (ed_vI rfl) ⟨he0, by omega⟩)) ea_nil)) fun x y G4 H4 w4 hx4 hy4 => ?_
      cases hx4; cases hy4
      -- the even one of low and low + 1
      refine q_forT K (ds := [.int (p'.fdiv e'), .int (p'.fdiv e' + 1)]) (fun j σ G5 H5 => ∃ y3, σ = [some (.int p'), some (.int e'), some (.ref f), some (.int i), some (if (j = 0 ∨ (j = 1 ∧ p'.fdiv e' % 2 = 1)) then V.non else .int (evPart p' e')), some (.int (p'.fdiv e')), y3] ∧ G5 f = none ∧ H5 f = some (.lst (xs.map V.int)))
        ((w1.trans w3).trans w4) (ed_tup (ea_cons (ed_vI rfl) (ea_cons (ed_add (ed_vI rfl) ed_int) ea_nil))) (fun G5 H5 w5 => ?_) ?_ ?_
      · have k5 := ((w3.trans w4).trans w5).keep hf1 gf
        exact ⟨y3, rfl, k5.2, k5.1⟩
      · rintro j d x σ' G5 H5 hj hx5 w5 e5 ⟨y3, rfl, gf5, hf5⟩
        have two : (j = 0 ∧ d = .int (p'.fdiv e')) ∨ (j = 1 ∧ d = .int (p'.fdiv e' + 1)) := by
          match j, hj with
          | 0, hj => exact .inl ⟨rfl, (Option.some.inj hj).symm⟩
          | 1, hj => exact .inr ⟨rfl, (Option.some.inj hj).symm⟩
          | j + 2, hj => simp at hj
        rcases two with ⟨rfl, rfl⟩ | ⟨rfl, rfl⟩
        · cases hx5
          by_cases hev : p'.fdiv e' % 2 = 1
          · refine s_when K (c := false) w5.b (EvB.to (eb_and (b := true) (eb_test (ed_eqI (ed_modP (ed_vI rfl) ed_int (by decide)) ed_int)) fun c => ?_) ?_) (fun c => nomatch c) fun _ G6 H6 w6 => ?_
            · have : p'.fdiv e' % 2 = 0 := by simpa using c
              omega
            · rw [show ((p'.fdiv e' % 2 == 0) = false) by simp; omega]; rfl
            · have k6 := w6.keep hf5 gf5
              refine ⟨G6, w5.trans w6, w6.g, some (.int (p'.fdiv e')), ?_, k6.2, k6.1⟩
              simp [hev]
          · refine s_when K (c := true) w5.b (EvB.to (eb_and (eb_test (ed_eqI (ed_modP (ed_vI rfl) ed_int (by decide)) ed_int)) fun c => eb_or (b := true) (eb_test (ed_isN (ed_var (v := .non) rfl .non) true rfl)) fun c => nomatch c) ?_) (fun _ G6 H6 w6 => ?_) fun c => nomatch c
            · rw [show ((p'.fdiv e' % 2 == 0) = true) by simp; omega]; rfl
            · refine s_setI K w6.b (ed_vI rfl) fun G7 H7 w7 => ?_
              have k7 := (w6.trans w7).keep hf5 gf5
              refine ⟨G7, (w5.trans w6).trans w7, (w6.trans w7).g, some (.int (p'.fdiv e')), ?_, k7.2, k7.1⟩
              have ep : evPart p' e' = p'.fdiv e' := by unfold evPart; rw [if_neg hev]
              simp [hev, ep]
        · cases hx5
          by_cases hev : p'.fdiv e' % 2 = 1
          · refine s_when K (c := true) w5.b (EvB.to (eb_and (eb_test (ed_eqI (ed_modP (ed_vI rfl) ed_int (by decide)) ed_int)) fun c => eb_or (b := true) (eb_test (ed_isN (ed_var (v := .non) (by simp [hev]) .non) true rfl)) fun c => nomatch c) ?_) (fun _ G6 H6 w6 => ?_) fun c => nomatch c
            · rw [show (((p'.fdiv e' + 1) % 2 == 0) = true) by simp; omega]; rfl
            · refine s_setI K w6.b (ed_vI rfl) fun G7 H7 w7 => ?_
              have k7 := (w6.trans w7).keep hf5 gf5
              refine ⟨G7, (w5.trans w6).trans w7, (w6.trans w7).g, some (.int (p'.fdiv e' + 1)), ?_, k7.2, k7.1⟩
              have ep : evPart p' e' = p'.fdiv e' + 1 := by unfold evPart; rw [if_pos hev]
              simp [ep]
          · refine s_when K (c := false) w5.b (EvB.to (eb_and (b := true) (eb_test (ed_eqI (ed_modP (ed_vI rfl) ed_int (by decide)) ed_int)) fun c => ?_) ?_) (fun c => nomatch c) fun _ G6 H6 w6 => ?_
            · have : (p'.fdiv e' + 1) % 2 = 0 := by simpa using c
              omega
            · rw [show (((p'.fdiv e' + 1) % 2 == 0) = false) by simp; omega]; rfl
            · have k6 := w6.keep hf5 gf5
              refine ⟨G6, w5.trans w6, w6.g, some (.int (p'.fdiv e' + 1)), ?_, k6.2, k6.1⟩
              simp [hev]
      · rintro σ' G5 H5 w5 e5 ⟨y3, rfl, gf5, hf5⟩
        have hb : (if ([PyData.int (p'.fdiv e'), .int (p'.fdiv e' + 1)].length = 0 ∨ ([PyData.int (p'.fdiv e'), .int (p'.fdiv e' + 1)].length = 1 ∧ p'.fdiv e' % 2 = 1)) then V.non else .int (evPart p' e')) = .int (evPart p' e') := by simp
        rw [hb]
        refine q_app K w5.b rfl gf5 hf5 (by rw [List.length_map]; omega) (ed_vI rfl) fun v G6 H6 w6 gf6 hf6 hv => ?_
        cases hv
        have w06 := Wk.mut (o := .lst (xs.map V.int ++ [.int (evPart p' e')])) (w5.trans w6) hf gf6
        refine s_parI K w06.b (ea_cons (ed_vI rfl) (ea_cons (ed_sub (ed_vI rfl) (ed_mul (ed_vI rfl) (ed_vI rfl) (.inl ⟨by omega, by omega⟩))) ea_nil)) fun G8 H8 w8 => ?_
        have k8 := w8.keep (o := .lst (xs.map V.int ++ [.int (evPart p' e')])) upd_same gf6
        refine ⟨G8, w06.trans w8, (((w3.trans w4).g.trans e5).trans w6.g).trans w8.g, e', p' - evPart p' e' * e', _, _, _, _, xs ++ [evPart p' e'], rfl, he', by omega, r2, by rw [List.length_append, hxl]; rfl, by omega, ?_, k8.2, ?_⟩
        · rw [← hx, hn, evn_pos he0, show 300 - (i + 1) = n by omega, List.append_assoc]; rfl
        · rw [k8.1, List.map_append]; rfl
  · rintro σ' G1 H1 w1 e1 ⟨p', e', t, y1, y2, y3, xs, rfl, hp', he', ho', hxl, hi6, hx, gf, hf1⟩
    have e3 : (300 : Int).toNat = 300 := rfl
    rw [e3, show 300 - 300 = 0 from rfl, show evn 0 p' e' = [] from rfl, List.append_nil] at hx
    exact fin xs _ G1 H1 rfl hx w1 gf hf1
end
end K71
namespace K71
open PySem PySem.Spec PyProof.Rows L2 L3 TF
section
variable {P : Program} {w : World} {K : Fg} {mg : Str → Option Value} {base : Heap} {Z : Ad}
theorem rpa4 {G : Hp} {xs : List V} {d e f g : PyData} (h : RpA K G xs [d, e, f, g]) : ∃ x y z u, xs = [x, y, z, u] ∧ Rp K G x d ∧ Rp K G y e ∧ Rp K G z f ∧ Rp K G u g := by
  cases h with
  | cons h1 h => cases h with
    | cons h2 h => cases h with
      | cons h3 h => cases h with
        | cons h4 h => cases h; exact ⟨_, _, _, _, rfl, h1, h2, h3, h4⟩
/-- are two signed fractions of one directed link -/
def sdF (a b : Int × Int) : Bool := if a.1 ≠ b.1 then false else if a.1 % 2 = 1 then ((a.2 - b.2) % a.1 == 0) || ((a.2 * b.2 - 1) % a.1 == 0) else (a.2 == b.2) || ((a.2 * b.2 - 1) % (2 * a.1) == 0)
def rSD (C : Addr) : List PyData → Except Addr PyData → Prop := fun ds r => ∃ a b c d, ds = [a, b, c, d] ∧ r = match okSigned a b with
  | none => .error C
  | some x => match okSigned c d with
    | none => .error C
    | some y => .ok (.bool (sdF x y))
theorem ok_same_directed (T : Txt K mg Z) : FnOk P w K mg base (L2N.CX P w) 3 Z.f_same_directed Z.d_same_directed ["p", "e", "p2", "e2"] (spR K 4 (rSD Z.C_BadSignedFraction)) := by
  refine okN T.F_same_directed sc_same_directed spR_len (fun cdv A outer s H vs Q E hr h => ?_)
  refine ⟨_, (pss_cons (ps_expr (pe_call (ok_check_signed T) (hr.mono (by first | decide | omega)) rfl T.m_check_signed T.F_check_signed.kp T.b_check_signed .nil (L2N.passes_call (L2N.takes_of rfl rfl rfl rfl) (fun _ _ _ _ h => h)) (pa_cons (pv 0) (pa_cons (pv 1) pa_nil))))
    (pss_cons (ps_expr (pe_call (ok_check_signed T) (hr.mono (by first | decide | omega)) rfl T.m_check_signed T.F_check_signed.kp T.b_check_signed .nil (L2N.passes_call (L2N.takes_of rfl rfl rfl rfl) (fun _ _ _ _ h => h)) (pa_cons (pv 2) (pa_cons (pv 3) pa_nil))))
    (pss_cons (ps_if (pt_cmpR (op_neD hr.units) (pv 0) (pv 2) (nomark _)) (pss_one (ps_ret pe_bl)) pss_nil)
    (pss_cons (ps_if (pt_cmpR (op_eqD hr.units) (pe_op op_mod (pv 0) pe_int) pe_int (nomark _)) (pss_one (ps_ret (pe_or (pe_cmpR (op_eqD hr.units) (pe_op op_mod (pe_op op_sub (pv 1) (pv 3)) (pv 0)) pe_int (nomark _)) (pe_one (pe_cmpR (op_eqD hr.units) (pe_op op_mod (pe_op op_sub (pe_op op_mul (pv 1) (pv 3)) pe_int) (pv 0)) pe_int (nomark _)))))) pss_nil)
    (pss_one (ps_ret (pe_or (pe_cmpR (op_eqD hr.units) (pv 1) (pv 3) (nomark _)) (pe_one (pe_cmpR (op_eqD hr.units) (pe_op op_mod (pe_op op_sub (pe_op op_mul (pv 1) (pv 3)) pe_int) (pe_op op_mul pe_int (pv 0))) pe_int (nomark _)))))))))), ?_⟩
  obtain ⟨G, ds, r, b, ha, _, ⟨p, e, p2, e2, rfl, er⟩, k⟩ := h
  obtain ⟨v1, v2, v3, v4, rfl, h1, h2, h3, h4⟩ := rpa4 ha
  cases hf : okSigned p e with
  | none =>
    simp only [hf] at er; subst er
    exact ex_call b (ea_cons (ed_var rfl h1) (ea_cons (ed_var rfl h2) ea_nil)) rfl ⟨p, e, rfl, by simp only [hf]⟩ fun H2 e2 => k H2 e2
  | some x =>
    refine q_drop K (d := .none) b (ed_call (ea_cons (ed_var rfl h1) (ea_cons (ed_var rfl h2) ea_nil)) rfl ⟨_, _, rfl, by simp only [hf]⟩) fun G1 H1 w1 => ?_
    have h3' := dp_up w1.g h3
    have h4' := dp_up w1.g h4
    cases hf2 : okSigned p2 e2 with
    | none =>
      simp only [hf, hf2] at er; subst er
      exact ex_call w1.b (ea_cons (ed_var rfl h3') (ea_cons (ed_var rfl h4') ea_nil)) rfl ⟨p2, e2, rfl, by simp only [hf2]⟩ fun H2 e2 => k H2 (w1.h.trans e2)
    | some y =>
      refine q_drop K (d := .none) w1.b (ed_call (ea_cons (ed_var rfl h3') (ea_cons (ed_var rfl h4') ea_nil)) rfl ⟨_, _, rfl, by simp only [hf2]⟩) fun G2 H2 w2 => ?_
      simp only [hf, hf2] at er; subst er
      obtain ⟨rfl, rfl, a1, a2, a3, a4, a5⟩ := okSigned_some hf
      obtain ⟨rfl, rfl, b1, b2, b3, b4, b5⟩ := okSigned_some hf2
      cases h1; cases h2; cases h3; cases h4
      obtain ⟨p, e⟩ := x
      obtain ⟨p2, e2⟩ := y
      simp only at *
      have c1 : e.natAbs < 1000000000 := by unfold ab at a3; split at a3 <;> omega
      refine q_when K (c := !(p == p2)) w2.b (eb_test (ed_neI (ed_vI rfl) (ed_vI rfl))) (fun c G3 H3 w3 => s_ret K w3.b ed_bl fun v G4 H4 w4 hv => k v G4 H4 (((w1.trans w2).trans w3).trans w4) ?_) fun c G3 H3 w3 => ?_
      · have : sdF (p, e) (p2, e2) = false := by unfold sdF; rw [if_pos (by simpa using c)]
        rw [this]; exact hv
      · have hp : p = p2 := by simpa using c
        subst hp
        refine q_when K (c := p % 2 == 1) w3.b (eb_test (ed_eqI (ed_modP (ed_vI rfl) ed_int (by decide)) ed_int)) (fun c G4 H4 w4 => ?_) fun c G4 H4 w4 => ?_
        · refine s_ret K w4.b (ed_orV (ed_eqI (ed_modP (ed_sub (ed_vI rfl) (ed_vI rfl)) (ed_vI rfl) (by omega)) ed_int) fun _ => ed_eqI (ed_modP (ed_sub (ed_mul (ed_vI rfl) (ed_vI rfl) (.inl ⟨by omega, by omega⟩)) ed_int) (ed_vI rfl) (by omega)) ed_int) fun v G5 H5 w5 hv => k v G5 H5 ((((w1.trans w2).trans w3).trans w4).trans w5) ?_
          have : sdF (p, e) (p, e2) = (((e - e2) % p == 0) || ((e * e2 - 1) % p == 0)) := by
            unfold sdF; rw [if_neg (fun h => h rfl), if_pos (by simpa using c)]
          rw [this]; exact hv
        · refine s_ret K w4.b (ed_orV (ed_eqI (ed_vI rfl) (ed_vI rfl)) fun _ => ed_eqI (ed_modP (ed_sub (ed_mul (ed_vI rfl) (ed_vI rfl) (.inl ⟨by omega, by omega⟩)) ed_int) (ed_mul ed_int (ed_vI rfl) (.inl ⟨by omega, by omega⟩)) (by omega)) ed_int) fun v G5 H5 w5 hv => k v G5 H5 ((((w1.trans w2).trans w3).trans w4).trans w5) ?_
          have : sdF (p, e) (p, e2) = ((e == e2) || ((e * e2 - 1) % (2 * p) == 0)) := by
            unfold sdF; rw [if_neg (fun h => h rfl), if_neg (by simpa using c)]
          rw [this]; exact hv
end
end K71
namespace K71
open PySem PySem.Spec PyProof.Rows L2 L3 TF
section
variable {P : Program} {w : World} {K : Fg} {mg : Str → Option Value} {base : Heap} {Z : Ad}
abbrev badD : PyData := .tuple [.str "signed", .bool true, .bool false]
/-- a wrong pair is told -/
def rFault : List PyData → Except Addr PyData → Prop := fun ds r => ∃ a b c d, ds = [.tuple [a, b], .tuple [c, d]] ∧ (okSigned a b = none ∨ okSigned c d = none) ∧ r = .ok badD
theorem ok__law_fault (T : Txt K mg Z) : FnOk P w K mg base (L2N.CX P w) 4 Z.f__law_fault Z.d__law_fault ["one", "other"] (spR K 2 rFault) := by
  refine okN T.F__law_fault sc__law_fault spR_len (fun cdv A outer s H vs Q E hr h => ?_)
  refine ⟨_, (pss_cons (L2N.ps_try_as (i := 2) (Wout := fun _ _ _ _ => False) rfl rfl sc__law_fault.nd rfl rfl ⟨rfl, by decide, .inl T.m_BadSignedFraction⟩ takesN (fun W pn xe tk po => (pss_one (ps_expr (pe_callS (ok_same_directed T) (hr.mono (by decide)) rfl T.m_same_directed T.F_same_directed.kp T.b_same_directed (fun σ => L2N.passAt tk σ) (pa_cons (pe_ix (show IxR _ (rIx2 K) from ix_two) (pv 0) pe_int (fun _ _ => rfl)) (pa_cons (pe_ix (show IxR _ (rIx2 K) from ix_two) (pv 0) pe_int (fun _ _ => rfl)) (pa_cons (pe_ix (show IxR _ (rIx2 K) from ix_two) (pv 1) pe_int (fun _ _ => rfl)) (pa_cons (pe_ix (show IxR _ (rIx2 K) from ix_two) (pv 1) pe_int (fun _ _ => rfl)) pa_nil)))))))) (fun a oe cls d pn hz hf => (pss_one (ps_ret (pe_tup (pa_cons pe_str (pa_cons (pe_isE hz hf (by rfl) T.z_isinstance (by decide +kernel) (pa_cons (pv 2) (pa_cons (gl_ref T.m_KnotError) pa_nil))) (pa_cons (pe_isET hz hf (by rfl) T.z_isinstance (by decide +kernel) (pa_cons (pv 2) (pa_cons (pe_tup (pa_cons (gl_ref T.m_TooLongRow) (pa_cons (gl_ref T.m_TooGreatFraction) pa_nil))) pa_nil))) pa_nil))))))))
    (pss_one (ps_ret (pe_tup (pa_cons pe_str pa_nil))))), ?_⟩
  obtain ⟨G, ds, r, b, ha, _, ⟨p, e, p2, e2, rfl, ho, rfl⟩, k⟩ := h
  obtain ⟨v, u, rfl, hv, hu⟩ := rpa2 ha
  have hn : rSD Z.C_BadSignedFraction [p, e, p2, e2] (.error Z.C_BadSignedFraction) := by
    refine ⟨p, e, p2, e2, rfl, ?_⟩
    rcases ho with h | h
    · simp only [h]
    · cases h2 : okSigned p e with
      | none => rfl
      | some x => simp only [h]
  refine ex_callS b (ea_cons (ed_ix2T (ed_var rfl hv) ed_int rfl) (ea_cons (ed_ix2T (ed_var rfl hv) ed_int rfl) (ea_cons (ed_ix2T (ed_var rfl hu) ed_int rfl) (ea_cons (ed_ix2T (ed_var rfl hu) ed_int rfl) ea_nil)))) rfl hn fun H1 e1 => ?_
  refine ⟨true, exm_is T.c_BadSignedFraction T.e_BadSignedFraction_BadSignedFraction, fun _ a ha => ?_, fun e => nomatch e⟩
  refine s_ret K (G := G) (b.trans e1) (ed_tup (ea_cons ed_str (ea_cons (ed_isE rfl T.c_BadSignedFraction.e T.k_BadSignedFraction_KnotError) (ea_cons (ed_isE2 rfl T.c_BadSignedFraction.e T.k_BadSignedFraction_TooLongRow T.k_BadSignedFraction_TooGreatFraction) ea_nil)))) fun v G2 H2 w2 hv => k v G2 H2 ⟨w2.g, w2.b, e1.trans w2.h, fun p h1 h2 => w2.n p (fun z => ?_) h2⟩ hv
  cases hp : H p with
  | none => exact h1 hp
  | some o => rw [e1 p o hp] at z; cases z
/-- signed fractions that are let -/
def SgnOk (x y : PyData) : Prop := ∃ p e : Int, x = .int p ∧ y = .int e ∧ 1 ≤ p ∧ p ≤ 1000000000 ∧ e.natAbs < p.natAbs ∧ (p + e) % 2 = 1 ∧ Nat.gcd p.natAbs e.natAbs = 1
theorem sgn_ok {p e : Int} (h1 : 1 ≤ p) (h2 : p ≤ 1000000000) (h3 : e.natAbs < p.natAbs) (h4 : (p + e) % 2 = 1) (h5 : Nat.gcd p.natAbs e.natAbs = 1) : okSigned (.int p) (.int e) = some (p, e) := by
  rw [okSigned_int, if_pos]; exact ⟨h1, h2, by unfold ab; split <;> omega, h5, by omega⟩
def dueF (a b : Int × Int) : Bool := if a.1 ≠ b.1 then false else ((a.2 - b.2) % (if a.1 % 2 = 1 then a.1 else 2 * a.1) == 0) || ((a.2 * b.2 - 1) % (if a.1 % 2 = 1 then a.1 else 2 * a.1) == 0)
theorem due_sd {p e p2 e2 : Int} (h1 : 1 ≤ p) (h2 : e.natAbs < p.natAbs) (h3 : e2.natAbs < p2.natAbs) : sdF (p, e) (p2, e2) = dueF (p, e) (p2, e2) := by
  unfold sdF dueF
  simp only
  by_cases hp : p = p2
  · subst hp
    rw [if_neg (fun h : p ≠ p => h rfl), if_neg (fun h : p ≠ p => h rfl)]
    by_cases ho : p % 2 = 1
    · rw [if_pos ho, if_pos ho]
    · rw [if_neg ho, if_neg ho]
      congr 1
      by_cases h : e = e2
      · subst h; rw [Int.sub_self]; simp
      · rw [beq_eq_false_iff_ne.mpr h]
        symm
        rw [beq_eq_false_iff_ne]
        intro h4
        have := dvd_small (Int.dvd_of_emod_eq_zero h4) (by omega)
        omega
  · rw [if_pos hp, if_pos hp]
def rDue : List PyData → Except Addr PyData → Prop := fun ds r => ∃ p e p2 e2 : Int, ds = [.tuple [.int p, .int e], .tuple [.int p2, .int e2]] ∧ 1 ≤ p ∧ p ≤ 1000000000 ∧ e.natAbs < p.natAbs ∧ r = .ok (.bool (dueF (p, e) (p2, e2)))
theorem ok__law_due (T : Txt K mg Z) : FnOk P w K mg base (L2N.CX P w) 1 Z.f__law_due Z.d__law_due ["one", "other"] (spR K 2 rDue) := by
  refine okN T.F__law_due sc__law_due spR_len (fun cdv A outer s H vs Q E hr h => ?_)
  refine ⟨_, (pss_cons (ps_asg (pv 0) (pg_tup (by rfl) (pgs_cons (pg_name (i := 2) sc__law_due.nd rfl (by first | exact Or.inl rfl | exact Or.inr rfl)) (pgs_cons (pg_name (i := 3) sc__law_due.nd rfl (by first | exact Or.inl rfl | exact Or.inr rfl)) pgs_nil))))
    (pss_cons (ps_if (pt_cmpR (op_neD hr.units) (pv 2) (pe_ix ix_two (pv 1) pe_int (fun _ _ => rfl)) (nomark _)) (pss_one (ps_ret pe_bl)) pss_nil)
    (pss_cons (ps_set (i := 4) sc__law_due.nd rfl (by first | exact Or.inl rfl | exact Or.inr rfl) (pe_ifExp (pt_cmpR (op_eqD hr.units) (pe_op op_mod (pv 2) pe_int) pe_int (nomark _)) (pv 2) (pe_op op_mul pe_int (pv 2))))
    (pss_one (ps_ret (pe_or (pe_cmpR (op_eqD hr.units) (pe_op op_mod (pe_callTy call_int1 (by rfl) T.z_int (by decide +kernel) (pa_cons (pe_op op_sub (pv 3) (pe_ix ix_two (pv 1) pe_int (fun _ _ => rfl))) pa_nil)) (pv 4)) pe_int (nomark _)) (pe_one (pe_cmpR (op_eqD hr.units) (pe_op op_mod (pe_callTy call_int1 (by rfl) T.z_int (by decide +kernel) (pa_cons (pe_op op_sub (pe_op op_mul (pv 3) (pe_ix ix_two (pv 1) pe_int (fun _ _ => rfl))) pe_int) pa_nil)) (pv 4)) pe_int (nomark _))))))))), ?_⟩
  obtain ⟨G, ds, r, b, ha, _, ⟨p, e, p2, e2, rfl, a1, a2, a3, rfl⟩, k⟩ := h
  obtain ⟨v, u, rfl, hv, hu⟩ := rpa2 ha
  refine q_twoI K b (ed_var rfl hv) fun G1 H1 w1 => ?_
  have hu1 := dp_up w1.g hu
  have x0 : atI [PyData.int p2, .int e2] 0 = some (.int p2) := rfl
  have x1 : atI [PyData.int p2, .int e2] 1 = some (.int e2) := rfl
  refine q_when K (c := !(p == p2)) w1.b (eb_test (ed_neI (ed_vI rfl) (ed_ix2T (ed_var rfl hu1) ed_int x0))) (fun c G3 H3 w3 => s_ret K w3.b ed_bl fun v G4 H4 w4 hv => k v G4 H4 ((w1.trans w3).trans w4) ?_) fun c G3 H3 w3 => ?_
  · have : dueF (p, e) (p2, e2) = false := by unfold dueF; rw [if_pos (by simpa using c)]
    rw [this]; exact hv
  · have hp : p = p2 := by simpa using c
    subst hp
    refine q_setI K (n := if p % 2 = 1 then p else 2 * p) w3.b (EvD.to (ed_if (b := p % 2 == 1) (eb_test (ed_eqI (ed_modP (ed_vI rfl) ed_int (by decide)) ed_int)) (fun _ => ed_vI rfl) fun _ => ed_mul ed_int (ed_vI rfl) (.inl ⟨by omega, by omega⟩)) ?_) fun G4 H4 w4 => ?_
    · by_cases h : p % 2 = 1
      · rw [if_pos (by simpa using h), if_pos h]
      · rw [if_neg (by simpa using h), if_neg h]
    · have hk : 0 < (if p % 2 = 1 then p else 2 * p) := by split <;> omega
      have hu4 := dp_up (w3.trans w4).g hu1
      refine s_ret K w4.b (ed_orV (ed_eqI (ed_modP (ed_toint (ed_sub (ed_vI rfl) (ed_ix2T (ed_var rfl hu4) ed_int x1))) (ed_vI rfl) hk) ed_int) fun _ => ed_eqI (ed_modP (ed_toint (ed_sub (ed_mul (ed_vI rfl) (ed_ix2T (ed_var rfl hu4) ed_int x1) (.inl ⟨by omega, by omega⟩)) ed_int)) (ed_vI rfl) hk) ed_int) fun v G5 H5 w5 hv => k v G5 H5 (((w1.trans w3).trans w4).trans w5) ?_
      have : dueF (p, e) (p, e2) = (((e - e2) % (if p % 2 = 1 then p else 2 * p) == 0) || ((e * e2 - 1) % (if p % 2 = 1 then p else 2 * p) == 0)) := by
        unfold dueF; rw [if_neg (fun h : p ≠ p => h rfl)]
      rw [this]; exact hv
/-- the polynomial by the row -/
def rByRow : List PyData → Except Addr PyData → Prop := fun ds r => ∃ row : List Int, ds = [.tuple (iL row)] ∧ row.length ≤ 300 ∧ (∀ x ∈ row, x.natAbs < 2 ^ 50) ∧ r = .ok (pD (byRowF row))
theorem ok__law_by_row (T : Txt K mg Z) : FnOk P w K mg base (L2N.CX P w) 3 Z.f__law_by_row Z.d__law_by_row ["row"] (spR K 1 rByRow) := by
  refine okN T.F__law_by_row sc__law_by_row spR_len (fun cdv A outer s H vs Q E hr h => ?_)
  refine ⟨_, (pss_cons (ps_par (i := 1) (j := 2) (by rfl) sc__law_by_row.nd rfl rfl (by decide) rfl rfl (pa_cons (pe_frz (pe_dnewK)) (pa_cons (pe_frz (pe_disp (pps_cons pe_int pe_int pps_nil) (by rfl) (by rfl) (fun z => by cases z) (by decide))) pa_nil)) (by rfl))
    (pss_cons (ps_for (passes_of rfl) rfl (pi_range1 (by rfl) T.z_range (pa_cons (pe_callB call_len_seq (by rfl) T.z_len (by decide +kernel) (pa_cons (pv 0) pa_nil)) pa_nil)) (pg_name (i := 3) sc__law_by_row.nd rfl (by first | exact Or.inl rfl | exact Or.inr rfl)) (pss_cons (ps_set (i := 4) sc__law_by_row.nd rfl (by first | exact Or.inl rfl | exact Or.inr rfl) (pe_op op_mul (pe_callTy call_int1 (by rfl) T.z_int (by decide +kernel) (pa_cons (pe_op op_fdiv (pe_ix ix_two (pv 0) (pv 3) (fun _ _ => rfl)) pe_int) pa_nil)) (pe_ifExp (pt_cmpR (op_eqD hr.units) (pe_op op_mod (pv 3) pe_int) pe_int (nomark _)) (pe_un un_neg pe_int) pe_int)))
    (pss_one (ps_par (i := 1) (j := 2) (by rfl) sc__law_by_row.nd rfl rfl (by decide) rfl rfl (pa_cons (pv 2) (pa_cons (pe_call (ok__law_sum_of T) (hr.mono (by first | decide | omega)) rfl T.m__law_sum_of T.F__law_sum_of.kp T.b__law_sum_of .nil passN (pa_cons (pv 1) (pa_cons (pe_call (ok__law_product T) (hr.mono (by first | decide | omega)) rfl T.m__law_product T.F__law_product.kp T.b__law_product .nil passN (pa_cons (pv 2) (pa_cons (pe_frz (pe_disp (pps_cons pe_int (pv 4) pps_nil) (by rfl) (by rfl) (fun z => by cases z) (by decide))) pa_nil))) pa_nil))) pa_nil)) (by rfl)))))
    (pss_one (ps_ret (pv 2))))), ?_⟩
  obtain ⟨G, ds, r, b, ha, _, ⟨row, rfl, hl, hx, rfl⟩, k⟩ := h
  obtain ⟨v, rfl, hv⟩ := rpa1 ha
  refine q_par K (d1 := pD []) (d2 := pD [(0, 1)]) b (ea_cons ed_dnew (ea_cons (ed_disp1 ed_int ed_int) ea_nil)) fun x y G1 H1 w1 hx1 hy1 => ?_
  refine q_forR1 K (n := ((iL row).length : Int)) (fun i σ G2 H2 => ∃ x y t1 t2 last here, σ = [some v, some x, some y, t1, t2] ∧ Rp K G2 x (pD last) ∧ Rp K G2 y (pD here) ∧ OkP i last ∧ OkP i here ∧ byGo i last here (row.drop i) = byRowF row) w1 (ea_cons (ed_lenT (ed_var rfl (dp_up w1.g hv))) ea_nil) (by rw [len_iL]; omega) (fun G2 H2 w2 => ⟨x, y, none, none, [], [(0, 1)], rfl, dp_up w2.g hx1, dp_up w2.g hy1, ok_nil, ok_one, rfl⟩) ?_ ?_
  · rintro i σ' G2 H2 hi w2 e2 ⟨x, y, t1, t2, last, here, rfl, hx2, hy2, o1, o2, hb⟩
    rw [len_iL] at hi
    have hlt : i < row.length := by omega
    have hc : row[i]? = some row[i] := List.getElem?_eq_getElem hlt
    generalize row[i] = c at hc
    have hcb := hx c (List.mem_of_getElem? hc)
    have hat : atI (iL row) (i : Int) = some (.int c) := by
      unfold atI ixN
      rw [if_pos (by omega), if_pos (by rw [len_iL]; omega)]
      show (iL row)[((i : Int)).toNat]? = _
      unfold iL
      rw [List.getElem?_map, show ((i : Int)).toNat = i by omega, hc]; rfl
    have e60 : (2 : Nat) ^ 60 = 1152921504606846976 := by decide
    have e50 : (2 : Nat) ^ 50 = 1125899906842624 := by decide
    have hs : (byStep i c).natAbs < 2 ^ 60 := by
      have : byStep i c = c / 2 ∨ byStep i c = -(c / 2) := by
        unfold byStep; split
        · right; omega
        · left; omega
      rcases this with h | h <;> rw [h] <;> omega
    refine q_setI K (n := byStep i c) w2.b (ed_mul (ed_toint (ed_divP (ed_ix2T (ed_var rfl (dp_up (w1.g.trans e2) hv)) (ed_vI rfl) hat) ed_int ⟨by decide, by decide⟩)) (EvD.to (ed_if (b := (i : Int) % 2 == 0) (d := .int (-1)) (e := .int 1) (eb_test (ed_eqI (ed_modP (ed_vI rfl) ed_int (by decide)) ed_int)) (fun _ => ed_neg ed_int) fun _ => ed_int) ?_) (.inl ⟨by omega, by omega⟩)) fun G3 H3 w3 => ?_
    · by_cases h : (i : Int) % 2 = 0
      · rw [if_pos (by simpa using h), if_pos h]
      · rw [if_neg (by simpa using h), if_neg h]
    · have l1 := okP_len o1
      have l2 := okP_len o2
      have l3 := okP_len (okP_step o1 o2 (byStep i c))
      have nd3 := prodF_nd here [(1, byStep i c)]
      have lp : (prodF here [(1, byStep i c)]).length ≤ here.length := by
        have : ∀ (one f : PI), (one.foldl (fun f u => putsF f u.1 u.2 [(1, byStep i c)]) f).length ≤ f.length + one.length := by
          intro one
          induction one with
          | nil => intro f; exact Nat.le_refl _
          | cons u one ih =>
            intro f
            have h1 := ih (putsF f u.1 u.2 [(1, byStep i c)])
            have h2 := putsF_len f u.1 u.2 [(1, byStep i c)]
            simp only [List.length_cons, List.length_nil] at h2 ⊢
            show (one.foldl _ (putsF f u.1 u.2 [(1, byStep i c)])).length ≤ _
            omega
        have := this here []
        simpa [prodF] using this
      have hx3 := dp_up w3.g hx2
      have hy3 := dp_up w3.g hy2
      refine s_par K (d1 := pD here) (d2 := pD (sumF last (prodF here [(1, byStep i c)]))) w3.b (ea_cons (ed_var rfl hy3) (ea_cons (ed_call (ea_cons (ed_var rfl hx3) (ea_cons (ed_call (ea_cons (ed_var rfl hy3) (ea_cons (ed_disp1 ed_int (ed_vI rfl)) ea_nil)) rfl ⟨here, [(1, byStep i c)], rfl, o2.nd, by simp [keysI], by simp; omega, .inr (fun v hv => ?_), rfl⟩) ea_nil)) rfl ⟨last, _, rfl, o1.nd, nd3, by omega, rfl⟩) ea_nil)) fun x2 y2 G4 H4 w4 hx4 hy4 => ?_
      · rw [List.mem_singleton.mp hv]; exact hs
      · refine ⟨G4, (w2.trans w3).trans w4, w3.g.trans w4.g, x2, y2, _, _, here, _, rfl, hx4, hy4, okP_up o2 (by omega), okP_step o1 o2 _, ?_⟩
        rw [← hb, List.drop_eq_getElem_cons hlt]
        have : row[i] = c := by rw [List.getElem?_eq_getElem hlt] at hc; exact Option.some.inj hc
        rw [this]; rfl
  · rintro σ' G2 H2 w2 e2 ⟨x, y, t1, t2, last, here, rfl, hx2, hy2, o1, o2, hb⟩
    have : ((iL row).length : Int).toNat = row.length := by rw [len_iL]; omega
    rw [this, List.drop_length] at hb
    have hb' : here = byRowF row := hb
    rw [← hb'] at k
    exact s_ret K w2.b (ed_var rfl hy2) fun v G3 H3 w3 hv => k v G3 H3 (w2.trans w3) hv
end
end K71
namespace K71
open PySem PySem.Spec PyProof.Rows L2 L3 TF
section
variable {P : Program} {w : World} {K : Fg} {mg : Str → Option Value} {base : Heap} {Z : Ad}
theorem gcd_sub_self (p q : Int) : Nat.gcd p.natAbs (q - p).natAbs = Nat.gcd p.natAbs q.natAbs := by
  rw [Nat.gcd_comm p.natAbs q.natAbs, ← gcd_natAbs_sub (p := q) (e := p) (c := 1), Int.one_mul]
theorem odd_of {p q : Int} (h : Nat.gcd p.natAbs q.natAbs = 1) (hp : p % 2 = 0) : q % 2 = 1 := by
  rcases Int.emod_two_eq q with h2 | h2
  · exfalso
    have : 2 ∣ Nat.gcd p.natAbs q.natAbs := Nat.dvd_gcd (by omega) (by omega)
    rw [h] at this
    omega
  · exact h2
/-- a signed fraction of a denominator up to most -/
def SgnM (m : Int) (x y : PyData) : Prop := ∃ p e : Int, x = .int p ∧ y = .int e ∧ 2 ≤ p ∧ p ≤ m ∧ e.natAbs < p.natAbs ∧ (p + e) % 2 = 1 ∧ Nat.gcd p.natAbs e.natAbs = 1
def spSigned (K : Fg) : Sp := fun vs H Q _ => ∃ (G : Hp) (a : Addr) (m : Int), vs = [.ref a, .int m] ∧ Same G H ∧ Pool K G H a ∧ 2 ≤ m ∧ m ≤ 300000 ∧
  ∀ v x y G1 H1, SgnM m x y → Wp a G H G1 H1 → Pool K G1 H1 a → Rp K G1 v (.tuple [x, y]) → Q v H1
theorem ep_signed {a : Addr} {σ : L2.St} {G H : Hp} {i : Nat} {M : Int → Prop} {E : XK} {tb : TE} (hs : σ[i]? = some (some (.ref a))) (hb : EvP K a tb σ G H (fun d => ∃ m : Int, d = .int m ∧ M m)) (h0 : ∀ m, M m → 2 ≤ m ∧ m ≤ 300000) :
    EvP K a (tCall (spSigned K) [] E (tCons (tVar i) (tCons tb tNil))) σ G H (fun d => ∃ x y, d = .tuple [x, y] ∧ ∃ m, M m ∧ SgnM m x y) := fun G1 H1 w p Q q =>
  ⟨_, hs, hb G1 H1 w p _ fun d x G2 H2 s w2 p2 hx => by
    obtain ⟨m, rfl, hm⟩ := s
    cases hx
    exact ⟨G2, a, m, rfl, w2.b, p2, (h0 m hm).1, (h0 m hm).2, fun v x y G3 H3 a1 w3 p3 r => q _ v G3 H3 ⟨_, _, rfl, m, hm, a1⟩ (w2.trans w3) p3 r⟩⟩
theorem ok__law_signed (T : Txt K mg Z) : FnOk P w K mg base (L2N.CX P w) 5 Z.f__law_signed Z.d__law_signed ["pool", "most"] (spSigned K) := by
  refine okN T.F__law_signed sc__law_signed (fun vs H Q E h => by obtain ⟨_, _, _, rfl, _⟩ := h; rfl) (fun cdv A outer s H vs Q E hr h => ?_)
  refine ⟨_, (pss_cons (ps_asg (pe_call (ok__law_pair T) (hr.mono (by first | decide | omega)) rfl T.m__law_pair T.F__law_pair.kp T.b__law_pair .nil passN (pa_cons (pv 0) (pa_cons (pv 1) pa_nil))) (pg_tup (by rfl) (pgs_cons (pg_name (i := 2) sc__law_signed.nd rfl (by first | exact Or.inl rfl | exact Or.inr rfl)) (pgs_cons (pg_name (i := 3) sc__law_signed.nd rfl (by first | exact Or.inl rfl | exact Or.inr rfl)) pgs_nil))))
    (pss_cons (ps_if (pt_cmpR (op_eqD hr.units) (pe_op op_mod (pv 2) pe_int) pe_int (nomark _)) (pss_one (ps_ret (pe_tup (pa_cons (pv 2) (pa_cons (pe_op op_sub (pv 3) (pe_call (ok__law_pick T) (hr.mono (by first | decide | omega)) rfl T.m__law_pick T.F__law_pick.kp T.b__law_pick .nil passN (pa_cons (pv 0) (pa_cons (pe_lst (pa_cons pe_int (pa_cons (pv 2) pa_nil))) pa_nil)))) pa_nil))))) pss_nil)
    (pss_one (ps_ret (pe_tup (pa_cons (pv 2) (pa_cons (pe_ifExp (pt_cmpR (op_eqD hr.units) (pe_op op_mod (pv 3) pe_int) pe_int (nomark _)) (pv 3) (pe_op op_sub (pv 3) (pv 2))) pa_nil))))))), ?_⟩
  obtain ⟨G, a, m, rfl, b, hp, m0, m1, k⟩ := h
  refine qp_two K (R := PairM m) b hp (ep_pairM rfl (ep_vI rfl) m0 m1) ?_
  rintro d e x y G1 H1 ⟨p, q, rfl, rfl, a1, a2, a3, a4, a5⟩ w1 p1 hx hy
  cases hx; cases hy
  refine q_when K (c := p % 2 == 0) w1.b (eb_test (ed_eqI (ed_modP (ed_vI rfl) ed_int (by decide)) ed_int)) (fun c G2 H2 w2 => ?_) fun c G2 H2 w2 => ?_
  · have hp0 : p % 2 = 0 := by simpa using c
    have hq := odd_of a5 hp0
    refine sp_ret K (S := fun d => ∃ x y, d = .tuple [x, y] ∧ SgnM m x y) w2.b (p1.up w2) (EvP.to (ep_tup (ep_a2 (S2 := fun _ d => ∃ e : Int, d = .int e ∧ (e = q ∨ e = q - p)) (ep_vI rfl) fun _ _ => ep_opI (A := (· = q)) (B := fun i => i = 0 ∨ i = p) (EvP.to (ep_vI rfl) fun d h => ⟨q, h, rfl⟩)
      (EvP.to (ep_pick (d := .list [.int 0, .int p]) rfl (ep_ed fun _ _ _ => ed_lst (ea_cons ed_int (ea_cons (ed_vI rfl) ea_nil))) (.inl rfl) (by simp) (by simp)) fun d h => ?_) fun i j G3 H3 hi hj w3 => ⟨.int (i - j), ⟨_, rfl, by omega⟩, ed_sub ed_int ed_int⟩) fun ds h => ?_) ?_) ?_
    · simp only [List.mem_cons, List.not_mem_nil, or_false] at h
      rcases h with rfl | rfl
      · exact ⟨0, rfl, .inl rfl⟩
      · exact ⟨p, rfl, .inr rfl⟩
    · obtain ⟨x, y, rfl, _⟩ := h
      exact Nat.le_of_ble_eq_true rfl
    · rintro d ⟨ds, rfl, x, y, rfl, rfl, e, rfl, he⟩
      refine ⟨_, _, rfl, p, e, rfl, rfl, a1, a2, by omega, by omega, ?_⟩
      rcases he with rfl | rfl
      · exact a5
      · rw [gcd_sub_self]; exact a5
    · rintro d v G3 H3 ⟨x, y, rfl, hs⟩ w3 p3 hv
      exact k v x y G3 H3 hs ((w1.trans w2.wp).trans w3) p3 hv
  · have hp0 : p % 2 = 1 := by
      have : ¬ p % 2 = 0 := by simpa using c
      omega
    refine s_ret K w2.b (ed_tup (ea_cons (ed_vI rfl) (ea_cons (ed_if (eb_test (ed_eqI (ed_modP (ed_vI rfl) ed_int (by decide)) ed_int)) (fun _ => ed_vI rfl) fun _ => ed_sub (ed_vI rfl) (ed_vI rfl)) ea_nil))) fun v G3 H3 w3 hv => k v _ _ G3 H3 ?_ ((w1.trans w2.wp).trans w3.wp) ((p1.up w2).up w3) hv
    by_cases hq : q % 2 = 0
    · rw [if_pos (by simpa using hq)]
      exact ⟨p, q, rfl, rfl, a1, a2, by omega, by omega, a5⟩
    · rw [if_neg (by simpa using hq)]
      exact ⟨p, q - p, rfl, rfl, a1, a2, by omega, by omega, by rw [gcd_sub_self]; exact a5⟩
def rSo : List PyData → Except Addr PyData → Prop := fun ds r => ∃ a b c d, ds = [.tuple [a, b], .tuple [c, d]] ∧ SgnOk a b ∧ SgnOk c d ∧ r = .ok (.bool true)
theorem ok__law_so (T : Txt K mg Z) : FnOk P w K mg base (L2N.CX P w) 10 Z.f__law_so Z.d__law_so ["one", "other"] (spR K 2 rSo) := by
  refine okN T.F__law_so sc__law_so spR_len (fun cdv A outer s H vs Q E hr h => ?_)
  refine ⟨_, (pss_cons (ps_set (i := 2) sc__law_so.nd rfl (by first | exact Or.inl rfl | exact Or.inr rfl) (pe_call (ok__law_due T) (hr.mono (by first | decide | omega)) rfl T.m__law_due T.F__law_due.kp T.b__law_due .nil passN (pa_cons (pv 0) (pa_cons (pv 1) pa_nil))))
    (pss_cons (ps_if (pt_not (pt_val (pe_call (ok__law_same T) (hr.mono (by first | decide | omega)) rfl T.m__law_same T.F__law_same.kp T.b__law_same .nil passN (pa_cons (pe_call (ok_same_directed T) (hr.mono (by first | decide | omega)) rfl T.m_same_directed T.F_same_directed.kp T.b_same_directed .nil (L2N.passes_call (L2N.takes_of rfl rfl rfl rfl) (fun _ _ _ _ h => h)) (pa_cons (pe_ix ix_two (pv 0) pe_int (fun _ _ => rfl)) (pa_cons (pe_ix ix_two (pv 0) pe_int (fun _ _ => rfl)) (pa_cons (pe_ix ix_two (pv 1) pe_int (fun _ _ => rfl)) (pa_cons (pe_ix ix_two (pv 1) pe_int (fun _ _ => rfl)) pa_nil))))) (pa_cons (pv 2) pa_nil))))) (pss_one (ps_ret pe_bl)) pss_nil)
    (pss_cons (ps_if (PW.pt (pw_and (pt_val (pv 2)) (pw_and1 (pt_cmpR op_lt (pe_ix ix_two (pv 0) pe_int (fun _ _ => rfl)) pe_int (nomark _))))) (pss_cons (ps_par (i := 3) (j := 4) (by rfl) sc__law_so.nd rfl rfl (by decide) rfl rfl (pa_cons (pe_call (ok__law_even T) (hr.mono (by first | decide | omega)) rfl T.m__law_even T.F__law_even.kp T.b__law_even .nil passN (pa_cons (pe_ix ix_two (pv 0) pe_int (fun _ _ => rfl)) (pa_cons (pe_ix ix_two (pv 0) pe_int (fun _ _ => rfl)) pa_nil))) (pa_cons (pe_call (ok__law_even T) (hr.mono (by first | decide | omega)) rfl T.m__law_even T.F__law_even.kp T.b__law_even .nil passN (pa_cons (pe_ix ix_two (pv 1) pe_int (fun _ _ => rfl)) (pa_cons (pe_ix ix_two (pv 1) pe_int (fun _ _ => rfl)) pa_nil))) pa_nil)) (by rfl))
    (pss_one (ps_if (PW.pt (pw_and (pt_cmpR op_lt (pe_callB call_len_seq (by rfl) T.z_len (by decide +kernel) (pa_cons (pv 3) pa_nil)) pe_int (nomark _)) (pw_and1 (pt_cmpR op_lt (pe_callB call_len_seq (by rfl) T.z_len (by decide +kernel) (pa_cons (pv 4) pa_nil)) pe_int (nomark _))))) (pss_one (ps_ret (pe_cmpR (op_eqD hr.units) (pe_call (ok__law_told T) (hr.mono (by first | decide | omega)) rfl T.m__law_told T.F__law_told.kp T.b__law_told .nil passN (pa_cons (pe_call (ok__law_by_row T) (hr.mono (by first | decide | omega)) rfl T.m__law_by_row T.F__law_by_row.kp T.b__law_by_row .nil passN (pa_cons (pv 3) pa_nil)) pa_nil)) (pe_call (ok__law_told T) (hr.mono (by first | decide | omega)) rfl T.m__law_told T.F__law_told.kp T.b__law_told .nil passN (pa_cons (pe_call (ok__law_by_row T) (hr.mono (by first | decide | omega)) rfl T.m__law_by_row T.F__law_by_row.kp T.b__law_by_row .nil passN (pa_cons (pv 4) pa_nil)) pa_nil)) (nomark _)))) pss_nil))) pss_nil)
    (pss_one (ps_ret pe_bl))))), ?_⟩
  obtain ⟨G, ds, r, b, ha, _, ⟨_, _, _, _, rfl, ⟨p, e, rfl, rfl, a1, a2, a3, a4, a5⟩, ⟨p2, e2, rfl, rfl, b1, b2, b3, b4, b5⟩, rfl⟩, k⟩ := h
  obtain ⟨v, u, rfl, hv, hu⟩ := rpa2 ha
  have x0 : atI [PyData.int p, .int e] 0 = some (.int p) := rfl
  have x1 : atI [PyData.int p, .int e] 1 = some (.int e) := rfl
  have y0 : atI [PyData.int p2, .int e2] 0 = some (.int p2) := rfl
  have y1 : atI [PyData.int p2, .int e2] 1 = some (.int e2) := rfl
  refine q_set K (d := .bool (dueF (p, e) (p2, e2))) b (ed_call (ea_cons (ed_var rfl hv) (ea_cons (ed_var rfl hu) ea_nil)) rfl ⟨p, e, p2, e2, rfl, a1, a2, a3, rfl⟩) fun x G1 H1 w1 hx => ?_
  cases hx
  have hv1 := dp_up w1.g hv
  have hu1 := dp_up w1.g hu
  refine q_when K (c := false) w1.b (EvB.to (eb_not (eb_val (ed_call (d := .bool true) (ea_cons (ed_call (d := .bool (dueF (p, e) (p2, e2))) (ea_cons (ed_ix2T (ed_var rfl hv1) ed_int x0) (ea_cons (ed_ix2T (ed_var rfl hv1) ed_int x1) (ea_cons (ed_ix2T (ed_var rfl hu1) ed_int y0) (ea_cons (ed_ix2T (ed_var rfl hu1) ed_int y1) ea_nil)))) rfl ⟨_, _, _, _, rfl, ?_⟩) (ea_cons (ed_var rfl (.bl _)) ea_nil)) rfl ⟨_, rfl, rfl, Nat.le_of_ble_eq_true rfl, Nat.le_of_ble_eq_true rfl, rfl⟩))) rfl) (fun e => nomatch e) fun _ G2 H2 w2 => ?_
  · simp only [sgn_ok a1 a2 a3 a4 a5, sgn_ok b1 b2 b3 b4 b5, due_sd a1 a3 b3]
  have hv2 := dp_up w2.g hv1
  have hu2 := dp_up w2.g hu1
  have last : ∀ G3 H3, Wk G H G3 H3 → ∀ σ, tRet (tC (.bl true)) { nx := fun _ H' => Q .non H', rt := Q } σ H3 := fun G3 H3 w3 σ => s_ret K w3.b ed_bl fun v G4 H4 w4 hv => k v G4 H4 (w3.trans w4) hv
  refine q_when K (c := dueF (p, e) (p2, e2) && decide (p < 300)) w2.b (eb_and (eb_val (ed_var rfl (.bl _))) fun _ => eb_test (ed_lt (ed_ix2T (ed_var rfl hv2) ed_int x0) ed_int)) (fun c G3 H3 w3 => ?_) fun c G3 H3 w3 => last G3 H3 ((w1.trans w2).trans w3) []
  simp only [Bool.and_eq_true, decide_eq_true_eq] at c
  obtain ⟨cd, cp⟩ := c
  have hv3 := dp_up w3.g hv2
  have hu3 := dp_up w3.g hu2
  have hp : p = p2 := by
    by_cases h : p = p2
    · exact h
    · unfold dueF at cd; rw [if_pos h] at cd; cases cd
  subst hp
  refine q_par K (d1 := .tuple (iL (evn 300 p e))) (d2 := .tuple (iL (evn 300 p e2))) w3.b (ea_cons (ed_call (ea_cons (ed_ix2T (ed_var rfl hv3) ed_int x0) (ea_cons (ed_ix2T (ed_var rfl hv3) ed_int x1) ea_nil)) rfl ⟨p, e, rfl, by omega, by omega, a4, rfl⟩) (ea_cons (ed_call (ea_cons (ed_ix2T (ed_var rfl hu3) ed_int y0) (ea_cons (ed_ix2T (ed_var rfl hu3) ed_int y1) ea_nil)) rfl ⟨p, e2, rfl, by omega, by omega, b4, rfl⟩) ea_nil)) fun x y G4 H4 w4 hx4 hy4 => ?_
  have wz := ((w1.trans w2).trans w3).trans w4
  refine s_when K (c := decide ((evn 300 p e).length < 40) && decide ((evn 300 p e2).length < 40)) w4.b (EvB.to (eb_and (eb_test (ed_lt (ed_lenT (ed_var rfl hx4)) ed_int)) fun _ => eb_test (ed_lt (ed_lenT (ed_var rfl hy4)) ed_int)) ?_) (fun c G5 H5 w5 => ?_) fun c G5 H5 w5 => last G5 H5 (wz.trans w5) []
  · rw [len_iL, len_iL]
    congr 1 <;> (rw [decide_eq_decide]; omega)
  · simp only [Bool.and_eq_true, decide_eq_true_eq] at c
    obtain ⟨c1, c2⟩ := c
    have z1 := evn_whole a4 (Nat.le_of_lt_succ c1) (by decide : 39 < 300)
    have z2 := evn_whole b4 (Nat.le_of_lt_succ c2) (by decide : 39 < 300)
    rw [z1] at hx4 c1
    rw [z2] at hy4 c2
    have hx5 := dp_up w5.g hx4
    have hy5 := dp_up w5.g hy4
    have q1 := evF_parts (e.natAbs + 1) p e (by omega) a4 a3
    have q2 := evF_parts (e2.natAbs + 1) p e2 (by omega) b4 b3
    have e50 : (2 : Nat) ^ 50 = 1125899906842624 := by decide
    have o1 := byRow_ok (evF p e)
    have o2 := byRow_ok (evF p e2)
    have l1 := okP_len o1
    have l2 := okP_len o2
    have ks : ∀ {n : Nat} {m : PI}, OkP n m → n ≤ 300 → ∀ c ∈ m, c.1.natAbs ≤ 100000 := fun h hn c hc => by
      have := h.ks c.1 (List.mem_map.mpr ⟨c, hc, rfl⟩)
      omega
    refine s_ret K (d := .bool true) w5.b (EvD.to (ed_eq (ed_call (d := toldF (byRowF (evF p e))) (ea_cons (ed_call (ea_cons (ed_var rfl hx5) ea_nil) rfl ⟨evF p e, rfl, by omega, fun x hx => by have := (q1 x hx).2.2; omega, rfl⟩) ea_nil) rfl ⟨_, rfl, o1.nd, by omega, ks o1 (by omega), rfl⟩) (ed_call (d := toldF (byRowF (evF p e2))) (ea_cons (ed_call (ea_cons (ed_var rfl hy5) ea_nil) rfl ⟨evF p e2, rfl, by omega, fun x hx => by have := (q2 x hx).2.2; omega, rfl⟩) ea_nil) rfl ⟨_, rfl, o2.nd, by omega, ks o2 (by omega), rfl⟩) (told_shaped _) (told_shaped _)) ?_) fun v G6 H6 w6 hv => k v G6 H6 ((wz.trans w5).trans w6) hv
    have hd : (if p % 2 = 1 then p else 2 * p) ∣ e - e2 ∨ (if p % 2 = 1 then p else 2 * p) ∣ e * e2 - 1 := by
      unfold dueF at cd
      rw [if_neg (fun h : p ≠ p => h rfl), Bool.or_eq_true] at cd
      rcases cd with h | h
      · exact .inl (Int.dvd_of_emod_eq_zero (by simpa using h))
      · exact .inr (Int.dvd_of_emod_eq_zero (by simpa using h))
    rw [directed_told a1 a3 b3 a4 b4 a5 hd, eqv_refl (told_lay _)]
end
end K71
namespace K71
open PySem PySem.Spec PyProof.Rows L2 L3 TF
section
variable {P : Program} {w : World} {K : Fg} {mg : Str → Option Value} {base : Heap} {Z : Ad}
def pairs0 : List PyData := [(.tuple [(.tuple [(.int 8), (.int 3)]), (.tuple [(.int 8), (.int (-5))])]), (.tuple [(.tuple [(.int 8), (.int 3)]), (.tuple [(.int 8), (.int 5)])]), (.tuple [(.tuple [(.int 2), (.int 1)]), (.tuple [(.int 2), (.int (-1))])]), (.tuple [(.tuple [(.int 4), (.int 1)]), (.tuple [(.int 4), (.int (-3))])]), (.tuple [(.tuple [(.int 4), (.int 1)]), (.tuple [(.int 4), (.int 1)])]), (.tuple [(.tuple [(.int 5), (.int 2)]), (.tuple [(.int 5), (.int (-2))])]), (.tuple [(.tuple [(.int 5), (.int 2)]), (.tuple [(.int 5), (.int (-4))])]), (.tuple [(.tuple [(.int 7), (.int 2)]), (.tuple [(.int 7), (.int 4)])]), (.tuple [(.tuple [(.int 7), (.int 2)]), (.tuple [(.int 9), (.int 2)])]), (.tuple [(.tuple [(.int 1), (.int 0)]), (.tuple [(.int 1), (.int 0)])]), (.tuple [(.tuple [(.int 12), (.int 5)]), (.tuple [(.int 12), (.int 5)])]), (.tuple [(.tuple [(.int 12), (.int 5)]), (.tuple [(.int 12), (.int (-7))])]), (.tuple [(.tuple [(.int 16), (.int 3)]), (.tuple [(.int 16), (.int 11)])]), (.tuple [(.tuple [(.int 16), (.int 3)]), (.tuple [(.int 16), (.int (-5))])])]
def dues0 : List PyData := [(.bool true), (.bool false), (.bool false), (.bool false), (.bool true), (.bool true), (.bool false), (.bool true), (.bool false), (.bool true), (.bool true), (.bool false), (.bool true), (.bool false)]
def sdD : PyData → PyData
  | .tuple [.tuple [.int p, .int e], .tuple [.int p2, .int e2]] => .bool (sdF (p, e) (p2, e2))
  | _ => .none
theorem pairs_ok : ∀ d ∈ pairs0, ∃ p e p2 e2 : Int, d = .tuple [.tuple [.int p, .int e], .tuple [.int p2, .int e2]] ∧ (1 ≤ p ∧ p ≤ 1000000000 ∧ e.natAbs < p.natAbs ∧ (p + e) % 2 = 1 ∧ Nat.gcd p.natAbs e.natAbs = 1) ∧ (1 ≤ p2 ∧ p2 ≤ 1000000000 ∧ e2.natAbs < p2.natAbs ∧ (p2 + e2) % 2 = 1 ∧ Nat.gcd p2.natAbs e2.natAbs = 1) := by
  intro d hd
  simp only [pairs0, List.mem_cons, List.not_mem_nil, or_false] at hd
  rcases hd with rfl | rfl | rfl | rfl | rfl | rfl | rfl | rfl | rfl | rfl | rfl | rfl | rfl | rfl <;> exact ⟨_, _, _, _, rfl, by decide +kernel, by decide +kernel⟩
theorem pairs_due : pairs0.map sdD = dues0 := by rfl
def rAlways : List PyData → Except Addr PyData → Prop := fun ds r => ds = [] ∧ r = .ok (.bool true)
theorem ok__law_always (T : Txt K mg Z) : FnOk P w K mg base (L2N.CX P w) 11 Z.f__law_always Z.d__law_always [] (spR K 0 rAlways) := by
  refine okN T.F__law_always sc__law_always spR_len (fun cdv A outer s H vs Q E hr h => ?_)
  refine ⟨_, (pss_cons (ps_set (i := 0) sc__law_always.nd rfl (by first | exact Or.inl rfl | exact Or.inr rfl) (pe_lst (pa_cons (pe_tup (pa_cons (pe_tup (pa_cons pe_int (pa_cons pe_int pa_nil))) (pa_cons (pe_tup (pa_cons pe_int (pa_cons (pe_un un_neg pe_int) pa_nil))) pa_nil))) (pa_cons (pe_tup (pa_cons (pe_tup (pa_cons pe_int (pa_cons pe_int pa_nil))) (pa_cons (pe_tup (pa_cons pe_int (pa_cons pe_int pa_nil))) pa_nil))) (pa_cons (pe_tup (pa_cons (pe_tup (pa_cons pe_int (pa_cons pe_int pa_nil))) (pa_cons (pe_tup (pa_cons pe_int (pa_cons (pe_un un_neg pe_int) pa_nil))) pa_nil))) (pa_cons (pe_tup (pa_cons (pe_tup (pa_cons pe_int (pa_cons pe_int pa_nil))) (pa_cons (pe_tup (pa_cons pe_int (pa_cons (pe_un un_neg pe_int) pa_nil))) pa_nil))) (pa_cons (pe_tup (pa_cons (pe_tup (pa_cons pe_int (pa_cons pe_int pa_nil))) (pa_cons (pe_tup (pa_cons pe_int (pa_cons pe_int pa_nil))) pa_nil))) (pa_cons (pe_tup (pa_cons (pe_tup (pa_cons pe_int (pa_cons pe_int pa_nil))) (pa_cons (pe_tup (pa_cons pe_int (pa_cons (pe_un un_neg pe_int) pa_nil))) pa_nil))) (pa_cons (pe_tup (pa_cons (pe_tup (pa_cons pe_int (pa_cons pe_int pa_nil))) (pa_cons (pe_tup (pa_cons pe_int (pa_cons (pe_un un_neg pe_int) pa_nil))) pa_nil))) (pa_cons (pe_tup (pa_cons (pe_tup (pa_cons pe_int (pa_cons pe_int pa_nil))) (pa_cons (pe_tup (pa_cons pe_int (pa_cons pe_int pa_nil))) pa_nil))) (pa_cons (pe_tup (pa_cons (pe_tup (pa_cons pe_int (pa_cons pe_int pa_nil))) (pa_cons (pe_tup (pa_cons pe_int (pa_cons pe_int pa_nil))) pa_nil))) (pa_cons (pe_tup (pa_cons (pe_tup (pa_cons pe_int (pa_cons pe_int pa_nil))) (pa_cons (pe_tup (pa_cons pe_int (pa_cons pe_int pa_nil))) pa_nil))) (pa_cons (pe_tup (pa_cons (pe_tup (pa_cons pe_int (pa_cons pe_int pa_nil))) (pa_cons (pe_tup (pa_cons pe_int (pa_cons pe_int pa_nil))) pa_nil))) (pa_cons (pe_tup (pa_cons (pe_tup (pa_cons pe_int (pa_cons pe_int pa_nil))) (pa_cons (pe_tup (pa_cons pe_int (pa_cons (pe_un un_neg pe_int) pa_nil))) pa_nil))) (pa_cons (pe_tup (pa_cons (pe_tup (pa_cons pe_int (pa_cons pe_int pa_nil))) (pa_cons (pe_tup (pa_cons pe_int (pa_cons pe_int pa_nil))) pa_nil))) (pa_cons (pe_tup (pa_cons (pe_tup (pa_cons pe_int (pa_cons pe_int pa_nil))) (pa_cons (pe_tup (pa_cons pe_int (pa_cons (pe_un un_neg pe_int) pa_nil))) pa_nil))) pa_nil))))))))))))))))
    (pss_cons (ps_set (i := 1) sc__law_always.nd rfl (by first | exact Or.inl rfl | exact Or.inr rfl) (pe_lst (pa_cons pe_bl (pa_cons pe_bl (pa_cons pe_bl (pa_cons pe_bl (pa_cons pe_bl (pa_cons pe_bl (pa_cons pe_bl (pa_cons pe_bl (pa_cons pe_bl (pa_cons pe_bl (pa_cons pe_bl (pa_cons pe_bl (pa_cons pe_bl (pa_cons pe_bl pa_nil))))))))))))))))
    (pss_one (ps_ret (pe_and (pe_call (ok__law_same T) (hr.mono (by first | decide | omega)) rfl T.m__law_same T.F__law_same.kp T.b__law_same .nil passN (pa_cons (pe_lc (own := [("one", 2), ("other", 3)]) rfl sc__law_always.nd (pi_list (pv 0)) (blkOk_by (own := [("one", 2), ("other", 3)]) (N := ["pairs", "due", "one", "other"]) (sc := defScope s__law_always) (by decide +kernel)) (fun _ _ _ _ _ => (show PG _ _ (gTup K 2 _) from (pg_tup (by rfl) (pgs_cons (pg_name (i := 2) sc__law_always.nd rfl (by first | exact Or.inl rfl | exact Or.inr rfl)) (pgs_cons (pg_name (i := 3) sc__law_always.nd rfl (by first | exact Or.inl rfl | exact Or.inr rfl)) pgs_nil))))) (fun _ _ _ _ _ => pts_nil) (fun _ _ _ _ _ => (pe_call (ok_same_directed T) (hr.mono (by first | decide | omega)) rfl T.m_same_directed T.F_same_directed.kp T.b_same_directed .nil passN (pa_cons (pe_ix (show IxR _ (rIx2 K) from ix_two) (pv 2) pe_int (fun _ _ => rfl)) (pa_cons (pe_ix (show IxR _ (rIx2 K) from ix_two) (pv 2) pe_int (fun _ _ => rfl)) (pa_cons (pe_ix (show IxR _ (rIx2 K) from ix_two) (pv 3) pe_int (fun _ _ => rfl)) (pa_cons (pe_ix (show IxR _ (rIx2 K) from ix_two) (pv 3) pe_int (fun _ _ => rfl)) pa_nil))))))) (pa_cons (pv 1) pa_nil))) (pe_one (pe_callB (cr_all rfl) (by rfl) T.z_all (by decide +kernel) (pa_cons (pe_lc (own := [("one", 2), ("other", 3)]) rfl sc__law_always.nd (pi_list (pv 0)) (blkOk_by (own := [("one", 2), ("other", 3)]) (N := ["pairs", "due", "one", "other"]) (sc := defScope s__law_always) (by decide +kernel)) (fun _ _ _ _ _ => (show PG _ _ (gTup K 2 _) from (pg_tup (by rfl) (pgs_cons (pg_name (i := 2) sc__law_always.nd rfl (by first | exact Or.inl rfl | exact Or.inr rfl)) (pgs_cons (pg_name (i := 3) sc__law_always.nd rfl (by first | exact Or.inl rfl | exact Or.inr rfl)) pgs_nil))))) (fun _ _ _ _ _ => pts_nil) (fun _ _ _ _ _ => (pe_call (ok__law_so T) (hr.mono (by first | decide | omega)) rfl T.m__law_so T.F__law_so.kp T.b__law_so .nil passN (pa_cons (pv 2) (pa_cons (pv 3) pa_nil))))) pa_nil)))))))), ?_⟩
  obtain ⟨G, ds, r, b, ha, _, ⟨rfl, rfl⟩, k⟩ := h
  cases ha
  refine q_set K (d := .list pairs0) b (ed_lst (ea_cons (ed_tup (ea_cons (ed_tup (ea_cons ed_int (ea_cons ed_int ea_nil))) (ea_cons (ed_tup (ea_cons ed_int (ea_cons (ed_neg ed_int) ea_nil))) ea_nil))) (ea_cons (ed_tup (ea_cons (ed_tup (ea_cons ed_int (ea_cons ed_int ea_nil))) (ea_cons (ed_tup (ea_cons ed_int (ea_cons ed_int ea_nil))) ea_nil))) (ea_cons (ed_tup (ea_cons (ed_tup (ea_cons ed_int (ea_cons ed_int ea_nil))) (ea_cons (ed_tup (ea_cons ed_int (ea_cons (ed_neg ed_int) ea_nil))) ea_nil))) (ea_cons (ed_tup (ea_cons (ed_tup (ea_cons ed_int (ea_cons ed_int ea_nil))) (ea_cons (ed_tup (ea_cons ed_int (ea_cons (ed_neg ed_int) ea_nil))) ea_nil))) (ea_cons (ed_tup (ea_cons (ed_tup (ea_cons ed_int (ea_cons ed_int ea_nil))) (ea_cons (ed_tup (ea_cons ed_int (ea_cons ed_int ea_nil))) ea_nil))) (ea_cons (ed_tup (ea_cons (ed_tup (ea_cons ed_int (ea_cons ed_int ea_nil))) (ea_cons (ed_tup (ea_cons ed_int (ea_cons (ed_neg ed_int) ea_nil))) ea_nil))) (ea_cons (ed_tup (ea_cons (ed_tup (ea_cons ed_int (ea_cons ed_int ea_nil))) (ea_cons (ed_tup (ea_cons ed_int (ea_cons (ed_neg ed_int) ea_nil))) ea_nil))) (ea_cons (ed_tup (ea_cons (ed_tup (ea_cons ed_int (ea_cons ed_int ea_nil))) (ea_cons (ed_tup (ea_cons ed_int (ea_cons ed_int ea_nil))) ea_nil))) (ea_cons (ed_tup (ea_cons (ed_tup (ea_cons ed_int (ea_cons ed_int ea_nil))) (ea_cons (ed_tup (ea_cons ed_int (ea_cons ed_int ea_nil))) ea_nil))) (ea_cons (ed_tup (ea_cons (ed_tup (ea_cons ed_int (ea_cons ed_int ea_nil))) (ea_cons (ed_tup (ea_cons ed_int (ea_cons ed_int ea_nil))) ea_nil))) (ea_cons (ed_tup (ea_cons (ed_tup (ea_cons ed_int (ea_cons ed_int ea_nil))) (ea_cons (ed_tup (ea_cons ed_int (ea_cons ed_int ea_nil))) ea_nil))) (ea_cons (ed_tup (ea_cons (ed_tup (ea_cons ed_int (ea_cons ed_int ea_nil))) (ea_cons (ed_tup (ea_cons ed_int (ea_cons (ed_neg ed_int) ea_nil))) ea_nil))) (ea_cons (ed_tup (ea_cons (ed_tup (ea_cons ed_int (ea_cons ed_int ea_nil))) (ea_cons (ed_tup (ea_cons ed_int (ea_cons ed_int ea_nil))) ea_nil))) (ea_cons (ed_tup (ea_cons (ed_tup (ea_cons ed_int (ea_cons ed_int ea_nil))) (ea_cons (ed_tup (ea_cons ed_int (ea_cons (ed_neg ed_int) ea_nil))) ea_nil))) ea_nil))))))))))))))) fun x G1 H1 w1 hx => ?_
  refine q_set K (d := .list dues0) w1.b (ed_lst (ea_cons ed_bl (ea_cons ed_bl (ea_cons ed_bl (ea_cons ed_bl (ea_cons ed_bl (ea_cons ed_bl (ea_cons ed_bl (ea_cons ed_bl (ea_cons ed_bl (ea_cons ed_bl (ea_cons ed_bl (ea_cons ed_bl (ea_cons ed_bl (ea_cons ed_bl ea_nil))))))))))))))) fun y G2 H2 w2 hy => ?_
  have hx2 := dp_up w2.g hx
  refine s_ret K (d := .bool true) w2.b (EvD.to (ed_andV (a := true) (b := true) (ed_call (ea_cons (EvD.to (ed_lcL (fun _ => true) sdD (ed_var rfl hx2) (by decide) fun d hd v G3 H3 w3 hv => ?_) ?_) (ea_cons (ed_var rfl hy) ea_nil)) rfl ⟨.list dues0, rfl, by decide +kernel, by decide +kernel, by decide +kernel, rfl⟩)
    fun _ => EvD.to (ed_all (bs := pairs0.map fun _ => true) (EvD.to (ed_lcL (fun _ => true) (fun _ => .bool true) (ed_var rfl hx2) (by decide) fun d hd v G3 H3 w3 hv => ?_) ?_)) rfl) rfl) fun v G4 H4 w4 hv => k v G4 H4 ((w1.trans w2).trans w4) hv
  · obtain ⟨p, e, p2, e2, rfl, ⟨a1, a2, a3, a4, a5⟩, ⟨b1, b2, b3, b4, b5⟩⟩ := pairs_ok d hd
    refine turn_2 w3.b hv (fun _ _ => rfl) (fun x y hx hy => eb_yes) fun x y hx hy _ => ?_
    exact ed_call (ea_cons (ed_ix2T (ed_var rfl hx) ed_int rfl) (ea_cons (ed_ix2T (ed_var rfl hx) ed_int rfl) (ea_cons (ed_ix2T (ed_var rfl hy) ed_int rfl) (ea_cons (ed_ix2T (ed_var rfl hy) ed_int rfl) ea_nil)))) rfl ⟨_, _, _, _, rfl, by simp only [sgn_ok a1 a2 a3 a4 a5, sgn_ok b1 b2 b3 b4 b5]; rfl⟩
  · rw [fm_true, pairs_due]
  · obtain ⟨p, e, p2, e2, rfl, ⟨a1, a2, a3, a4, a5⟩, ⟨b1, b2, b3, b4, b5⟩⟩ := pairs_ok d hd
    refine turn_2 w3.b hv (fun _ _ => rfl) (fun x y hx hy => eb_yes) fun x y hx hy _ => ?_
    exact ed_call (ea_cons (ed_var rfl hx) (ea_cons (ed_var rfl hy) ea_nil)) rfl ⟨_, _, _, _, rfl, ⟨p, e, rfl, rfl, a1, a2, a3, a4, a5⟩, ⟨p2, e2, rfl, rfl, b1, b2, b3, b4, b5⟩, rfl⟩
  · rw [fm_true]; rfl
def wrong0 : List PyData := [(.tuple [(.int 0), (.int 1)]), (.tuple [(.int 3), (.int 1)]), (.tuple [(.int 4), (.int 2)]), (.tuple [(.int 9), (.int 6)]), (.tuple [(.int 5), (.int 6)]), (.tuple [(.int (-3)), (.int 2)]), (.tuple [(.int (10 ^ 9 + 1)), (.int 2)]), (.tuple [.none, (.int 0)]), (.tuple [(.int 5), .none]), (.tuple [(.bool true), (.int 0)]), (.tuple [(.int 5), (.bool false)]), (.tuple [(.str "5"), (.int 2)]), (.tuple [(.list []), (.dict [])])]
theorem wrong_bad : ∀ d ∈ wrong0, ∃ x y, d = .tuple [x, y] ∧ okSigned x y = none := by
  intro d hd
  simp only [wrong0, List.mem_cons, List.not_mem_nil, or_false] at hd
  rcases hd with rfl | rfl | rfl | rfl | rfl | rfl | rfl | rfl | rfl | rfl | rfl | rfl | rfl <;> exact ⟨_, _, rfl, by decide +kernel⟩
theorem SgnM.ok {m : Int} {x y : PyData} (h : SgnM m x y) (hm : m ≤ 1000000000) : SgnOk x y := by
  obtain ⟨p, e, rfl, rfl, a1, a2, a3, a4, a5⟩ := h
  exact ⟨p, e, rfl, rfl, by omega, by omega, a3, a4, a5⟩
def invTo (p e : Int) : PyData → Bool
  | .int r => (e * r - 1) % p == 0 && (p + r) % 2 == 1
  | _ => false
def oddTo (p : Int) : PyData → Bool
  | .int r => (p + r) % 2 == 1 && ((Nat.gcd p.natAbs r.natAbs : Nat) : Int) == 1
  | _ => false
theorem gcd_inv {p e r : Int} (hp : 0 < p) (h : (e * r - 1) % p = 0) : Nat.gcd p.natAbs r.natAbs = 1 := by
  have d : p ∣ e * r - 1 := Int.dvd_of_emod_eq_zero h
  have h1 : ((Nat.gcd p.natAbs r.natAbs : Nat) : Int) ∣ p := Int.ofNat_dvd_left.mpr (Nat.gcd_dvd_left _ _)
  have h2 : ((Nat.gcd p.natAbs r.natAbs : Nat) : Int) ∣ r := Int.ofNat_dvd_left.mpr (Nat.gcd_dvd_right _ _)
  have h3 := Int.dvd_sub (Int.dvd_trans h2 (Int.dvd_mul_left e r)) (Int.dvd_trans h1 d)
  rw [show e * r - (e * r - 1) = 1 by omega] at h3
  have := Int.ofNat_dvd_left.mp h3
  exact Nat.dvd_one.mp this
theorem ep_ed' {a : Addr} {te : TE} {σ : L2.St} {G H : Hp} {d : PyData} {S : PyData → Prop} (h : ∀ G1 H1, Wp a G H G1 H1 → EvD K te σ G1 H1 d) (hs : S d) : EvP K a te σ G H S := EvP.to (ep_ed h) fun x e => by rw [e]; exact hs
theorem sdF_refl (p e : Int) : sdF (p, e) (p, e) = true := by
  unfold sdF
  rw [if_neg (fun h : p ≠ p => h rfl), Int.sub_self]
  simp
def spLaw (K : Fg) : Sp := fun vs H Q _ => ∃ (G : Hp) (a : Addr) (ns : List Int), vs = [.ref a] ∧ Same G H ∧ SqL K G a (ns.map V.int) ∧ ns.length ≤ 63 ∧ ∀ H1, Q (.bl true) H1
theorem spLaw_len {K : Fg} : ∀ vs H Q E, spLaw K vs H Q E → vs.length = 1 := fun vs H Q E h => by
  obtain ⟨_, _, _, rfl, _⟩ := h; rfl
theorem ok_law (T : Txt K mg Z) : FnOk P w K mg base (L2N.CX P w) 12 Z.f_law Z.d_law ["script"] (spLaw K) := by
  refine okN T.F_law sc_law spLaw_len (fun cdv A outer s H vs Q E hr h => ?_)
  refine ⟨_, (pss_cons (ps_set (i := 1) sc_law.nd rfl (by first | exact Or.inl rfl | exact Or.inr rfl) (pe_call (ok__law_pool T) (hr.mono (by first | decide | omega)) rfl T.m__law_pool T.F__law_pool.kp T.b__law_pool .nil passN (pa_cons (pv 0) pa_nil)))
    (pss_cons (ps_if (pt_not (pt_val (pe_call0 (ok__law_always T) (hr.mono (by decide)) rfl T.m__law_always T.F__law_always.kp T.b__law_always .nil passN))) (pss_one (ps_ret pe_bl)) pss_nil)
    (pss_cons (ps_for (passes_of rfl) rfl (pi_range1 (by rfl) T.z_range (pa_cons pe_int pa_nil)) (pg_name (i := 2) sc_law.nd rfl (by first | exact Or.inl rfl | exact Or.inr rfl)) (pss_cons (ps_set (i := 3) sc_law.nd rfl (by first | exact Or.inl rfl | exact Or.inr rfl) (pe_call (ok__law_signed T) (hr.mono (by first | decide | omega)) rfl T.m__law_signed T.F__law_signed.kp T.b__law_signed .nil passN (pa_cons (pv 1) (pa_cons (pe_call (ok__law_pick T) (hr.mono (by first | decide | omega)) rfl T.m__law_pick T.F__law_pick.kp T.b__law_pick .nil passN (pa_cons (pv 1) (pa_cons (pe_lst (pa_cons pe_int (pa_cons pe_int (pa_cons pe_int pa_nil)))) pa_nil))) pa_nil))))
    (pss_cons (ps_asg (pv 3) (pg_tup (by rfl) (pgs_cons (pg_name (i := 4) sc_law.nd rfl (by first | exact Or.inl rfl | exact Or.inr rfl)) (pgs_cons (pg_name (i := 5) sc_law.nd rfl (by first | exact Or.inl rfl | exact Or.inr rfl)) pgs_nil))))
    (pss_cons (ps_set (i := 6) sc_law.nd rfl (by first | exact Or.inl rfl | exact Or.inr rfl) (pe_call (ok__law_take T) (hr.mono (by first | decide | omega)) rfl T.m__law_take T.F__law_take.kp T.b__law_take .nil passN (pa_cons (pv 1) (pa_cons pe_int pa_nil))))
    (pss_cons (ps_set (i := 7) sc_law.nd rfl (by first | exact Or.inl rfl | exact Or.inr rfl) (pe_call (ok__law_signed T) (hr.mono (by first | decide | omega)) rfl T.m__law_signed T.F__law_signed.kp T.b__law_signed .nil passN (pa_cons (pv 1) (pa_cons pe_int pa_nil))))
    (pss_cons (ps_if (pt_cmpR (op_eqD hr.units) (pv 6) pe_int (nomark _)) (pss_one (ps_set (i := 7) sc_law.nd rfl (by first | exact Or.inl rfl | exact Or.inr rfl) (pv 3))) (pss_one (ps_if (pt_cmpR (op_eqD hr.units) (pv 6) pe_int (nomark _)) (pss_cons (ps_setLc (i := 8) (own := [("r", 11)]) rfl sc_law.nd rfl rfl (sw_true rfl rfl rfl (by decide +kernel)) (pi_range2 (by rfl) T.z_range (pa_cons (pe_op op_sub pe_int (pv 4)) (pa_cons (pv 4) pa_nil))) (blkOk_by (own := [("r", 11)]) (N := ["script", "pool", "turn", "one", "p", "e", "kind", "other", "some", "great", "wrong", "r"]) (sc := defScope s_law) (by decide +kernel)) (fun _ _ _ _ _ => (pg_name (i := 11) sc_law.nd rfl (by first | exact Or.inl rfl | exact Or.inr rfl))) (fun _ _ _ _ _ => (pts_one (PW.pt (pw_and (pt_cmpR (show OpR _ (compareOp .Eq) (rEqD K) from (op_eqD hr.units)) (pe_op op_mod (pe_callTy call_int1 (by rfl) T.z_int (by decide +kernel) (pa_cons (pe_op op_sub (pe_op op_mul (pv 5) (pv 11)) pe_int) pa_nil)) (pv 4)) pe_int (nomark _)) (pw_and1 (pt_cmpR (show OpR _ (compareOp .Eq) (rEqD K) from (op_eqD hr.units)) (pe_op op_mod (pe_callTy call_int1 (by rfl) T.z_int (by decide +kernel) (pa_cons (pe_op op_add (pv 4) (pv 11)) pa_nil)) pe_int) pe_int (nomark _))))))) (fun _ _ _ _ _ => (pv 11)))
    (pss_one (ps_set (i := 7) sc_law.nd rfl (by first | exact Or.inl rfl | exact Or.inr rfl) (pe_ifExp (pt_truth (pv 8) (by intro _; rfl)) (pe_tup (pa_cons (pv 4) (pa_cons (pe_call (ok__law_pick T) (hr.mono (by first | decide | omega)) rfl T.m__law_pick T.F__law_pick.kp T.b__law_pick .nil passN (pa_cons (pv 1) (pa_cons (pv 8) pa_nil))) pa_nil))) (pv 3))))) (pss_one (ps_if (pt_cmpR (op_eqD hr.units) (pv 6) pe_int (nomark _)) (pss_cons (ps_setLc (i := 8) (own := [("r", 11)]) rfl sc_law.nd rfl rfl (sw_true rfl rfl rfl (by decide +kernel)) (pi_range2 (by rfl) T.z_range (pa_cons (pe_op op_sub pe_int (pv 4)) (pa_cons (pv 4) pa_nil))) (blkOk_by (own := [("r", 11)]) (N := ["script", "pool", "turn", "one", "p", "e", "kind", "other", "some", "great", "wrong", "r"]) (sc := defScope s_law) (by decide +kernel)) (fun _ _ _ _ _ => (pg_name (i := 11) sc_law.nd rfl (by first | exact Or.inl rfl | exact Or.inr rfl))) (fun _ _ _ _ _ => (pts_one (PW.pt (pw_and (pt_cmpR (show OpR _ (compareOp .Eq) (rEqD K) from (op_eqD hr.units)) (pe_op op_mod (pe_callTy call_int1 (by rfl) T.z_int (by decide +kernel) (pa_cons (pe_op op_add (pv 4) (pv 11)) pa_nil)) pe_int) pe_int (nomark _)) (pw_and1 (pt_cmpR (show OpR _ (compareOp .Eq) (rEqD K) from (op_eqD hr.units)) (pe_call (ok__law_common T) (hr.mono (by first | decide | omega)) rfl T.m__law_common T.F__law_common.kp T.b__law_common .nil passN (pa_cons (pv 4) (pa_cons (pv 11) pa_nil))) pe_int (nomark _))))))) (fun _ _ _ _ _ => (pv 11)))
    (pss_one (ps_set (i := 7) sc_law.nd rfl (by first | exact Or.inl rfl | exact Or.inr rfl) (pe_tup (pa_cons (pv 4) (pa_cons (pe_call (ok__law_pick T) (hr.mono (by first | decide | omega)) rfl T.m__law_pick T.F__law_pick.kp T.b__law_pick .nil passN (pa_cons (pv 1) (pa_cons (pv 8) pa_nil))) pa_nil)))))) pss_nil)))))
    (pss_one (ps_if (pt_not (pt_val (pe_call (ok__law_so T) (hr.mono (by first | decide | omega)) rfl T.m__law_so T.F__law_so.kp T.b__law_so .nil passN (pa_cons (pv 3) (pa_cons (pv 7) pa_nil))))) (pss_one (ps_ret pe_bl)) pss_nil))))))))
    (pss_cons (ps_set (i := 4) sc_law.nd rfl (by first | exact Or.inl rfl | exact Or.inr rfl) (pe_op op_sub (pe_op op_pow pe_int pe_int) (pe_call (ok__law_take T) (hr.mono (by first | decide | omega)) rfl T.m__law_take T.F__law_take.kp T.b__law_take .nil passN (pa_cons (pv 1) (pa_cons (pe_op op_pow pe_int pe_int) pa_nil)))))
    (pss_cons (ps_set (i := 9) sc_law.nd rfl (by first | exact Or.inl rfl | exact Or.inr rfl) (pe_ifExp (pt_cmpR (op_eqD hr.units) (pe_op op_mod (pv 4) pe_int) pe_int (nomark _)) (pe_tup (pa_cons (pv 4) (pa_cons (pe_op op_sub (pv 4) pe_int) pa_nil))) (pe_tup (pa_cons (pv 4) (pa_cons pe_int pa_nil)))))
    (pss_cons (ps_if (pt_not (pt_val (pe_call (ok__law_same T) (hr.mono (by first | decide | omega)) rfl T.m__law_same T.F__law_same.kp T.b__law_same .nil passN (pa_cons (pe_call (ok_same_directed T) (hr.mono (by first | decide | omega)) rfl T.m_same_directed T.F_same_directed.kp T.b_same_directed .nil (L2N.passes_call (L2N.takes_of rfl rfl rfl rfl) (fun _ _ _ _ h => h)) (pa_cons (pe_ix ix_two (pv 9) pe_int (fun _ _ => rfl)) (pa_cons (pe_ix ix_two (pv 9) pe_int (fun _ _ => rfl)) (pa_cons (pe_ix ix_two (pv 9) pe_int (fun _ _ => rfl)) (pa_cons (pe_ix ix_two (pv 9) pe_int (fun _ _ => rfl)) pa_nil))))) (pa_cons pe_bl pa_nil))))) (pss_one (ps_ret pe_bl)) pss_nil)
    (pss_cons (ps_set (i := 10) sc_law.nd rfl (by first | exact Or.inl rfl | exact Or.inr rfl) (pe_call (ok__law_pick T) (hr.mono (by first | decide | omega)) rfl T.m__law_pick T.F__law_pick.kp T.b__law_pick .nil passN (pa_cons (pv 1) (pa_cons (pe_lst (pa_cons (pe_tup (pa_cons pe_int (pa_cons pe_int pa_nil))) (pa_cons (pe_tup (pa_cons pe_int (pa_cons pe_int pa_nil))) (pa_cons (pe_tup (pa_cons pe_int (pa_cons pe_int pa_nil))) (pa_cons (pe_tup (pa_cons pe_int (pa_cons pe_int pa_nil))) (pa_cons (pe_tup (pa_cons pe_int (pa_cons pe_int pa_nil))) (pa_cons (pe_tup (pa_cons (pe_un un_neg pe_int) (pa_cons pe_int pa_nil))) (pa_cons (pe_tup (pa_cons (pe_op op_add (pe_op op_pow pe_int pe_int) pe_int) (pa_cons pe_int pa_nil))) (pa_cons (pe_tup (pa_cons pe_non (pa_cons pe_int pa_nil))) (pa_cons (pe_tup (pa_cons pe_int (pa_cons pe_non pa_nil))) (pa_cons (pe_tup (pa_cons pe_bl (pa_cons pe_int pa_nil))) (pa_cons (pe_tup (pa_cons pe_int (pa_cons pe_bl pa_nil))) (pa_cons (pe_tup (pa_cons pe_str (pa_cons pe_int pa_nil))) (pa_cons (pe_tup (pa_cons (pe_lst pa_nil) (pa_cons (pe_frz (pe_dnewK)) pa_nil))) pa_nil)))))))))))))) pa_nil))))
    (pss_cons (ps_if (pt_not (pt_val (pe_call (ok__law_same T) (hr.mono (by first | decide | omega)) rfl T.m__law_same T.F__law_same.kp T.b__law_same .nil passN (pa_cons (pe_call (ok__law_fault T) (hr.mono (by first | decide | omega)) rfl T.m__law_fault T.F__law_fault.kp T.b__law_fault .nil passN (pa_cons (pv 10) (pa_cons (pe_tup (pa_cons pe_int (pa_cons pe_int pa_nil))) pa_nil))) (pa_cons (pe_tup (pa_cons pe_str (pa_cons pe_bl (pa_cons pe_bl pa_nil)))) pa_nil))))) (pss_one (ps_ret pe_bl)) pss_nil)
    (pss_one (ps_ret (pe_call (ok__law_same T) (hr.mono (by first | decide | omega)) rfl T.m__law_same T.F__law_same.kp T.b__law_same .nil passN (pa_cons (pe_call (ok__law_fault T) (hr.mono (by first | decide | omega)) rfl T.m__law_fault T.F__law_fault.kp T.b__law_fault .nil passN (pa_cons (pe_tup (pa_cons pe_int (pa_cons pe_int pa_nil))) (pa_cons (pv 10) pa_nil))) (pa_cons (pe_tup (pa_cons pe_str (pa_cons pe_bl (pa_cons pe_bl pa_nil)))) pa_nil))))))))))))), ?_⟩
  obtain ⟨G, sa, ns, rfl, b, hS, hn, k⟩ := h
  refine ⟨_, rfl, G, sa, ns, rfl, b, hS, hn, fun a G1 H1 ha w1 p1 => ?_⟩
  refine q_when K (c := false) w1.b (EvB.to (eb_not (eb_val (ed_call (n := 0) (R := rAlways) (d := .bool true) ea_nil rfl ⟨rfl, rfl⟩))) rfl) (fun e => nomatch e) fun _ G2 H2 w2 => ?_
  refine qp_for K (a := a) (fun i σ' G' H' => ∃ y2 y3 y4 y5 y6 y7 y8, σ' = [some (.ref sa), some (.ref a), y2, y3, y4, y5, y6, y7, y8, none, none, none]) (Wp.refl w2.b) (p1.up w2) (by decide) ⟨_, _, _, _, _, _, _, rfl⟩ ?_ ?_
  · rintro i σ' G3 H3 hi w3 p3 ⟨y2, y3, y4, y5, y6, y7, y8, rfl⟩
    refine qp_set K (S := fun d => ∃ x y, d = .tuple [x, y] ∧ ∃ m, (m = 20 ∨ m = 60 ∨ m = 250) ∧ SgnM m x y) w3.b p3 (ep_signed rfl (EvP.to (ep_pick (d := .list [.int 20, .int 60, .int 250]) rfl (ep_ed fun _ _ _ => (ed_lst (ea_cons ed_int (ea_cons ed_int (ea_cons ed_int ea_nil))))) (.inl rfl) (by simp) (by decide)) fun d h => ?_) fun m h => by omega) ?_
    · simp only [List.mem_cons, List.not_mem_nil, or_false] at h
      rcases h with rfl | rfl | rfl
      · exact ⟨_, rfl, .inl rfl⟩
      · exact ⟨_, rfl, .inr (.inl rfl)⟩
      · exact ⟨_, rfl, .inr (.inr rfl)⟩
    rintro d v G4 H4 ⟨x, y, rfl, m, hm, hxy⟩ w4 p4 hv
    have hxy' := hxy
    obtain ⟨p, e, rfl, rfl, a1, a2, a3, a4, a5⟩ := hxy
    have hone : SgnOk (.int p) (.int e) := hxy'.ok (by omega)
    refine q_twoI K w4.b (ed_var rfl hv) fun G5 H5 w5 => ?_
    have p5 := p4.up w5
    refine qp_set K (S := fun d => ∃ z : Int, d = .int z ∧ 0 ≤ z ∧ z < 4) w5.b p5 (ep_take rfl ep_int (by decide) (by decide)) ?_
    rintro d kv G6 H6 ⟨kd, rfl, k0, k1⟩ w6 p6 hk
    cases hk
    refine qp_set K (S := fun d => ∃ x y, d = .tuple [x, y] ∧ ∃ m, m = 30 ∧ SgnM m x y) w6.b p6 (ep_signed rfl (EvP.to ep_int fun d h => ⟨30, h, rfl⟩) fun m h => by omega) ?_
    rintro d ov G7 H7 ⟨x, y, rfl, m2, rfl, hxy2⟩ w7 p7 hov
    have ww := (((w3.trans w4).trans w5.wp).trans w6).trans w7
    have hv7 := dp_up ((w5.g.trans w6.g).trans w7.g) hv
    refine q_join (fun σ' H' => ∃ G' vo y8 x y, σ' = [some (.ref sa), some (.ref a), some (.int i), some v, some (.int p), some (.int e), some (.int kd), some vo, y8, none, none, none] ∧ Wp a G7 H7 G' H' ∧ Pool K G' H' a ∧ Rp K G' vo (.tuple [x, y]) ∧ SgnOk x y) ?_ ?_
    · rintro σ' H' ⟨G', vo, y8', x, y, rfl, w8, p8, hvo, hso⟩
      refine s_when K (c := false) w8.b (EvB.to (eb_not (eb_val (ed_call (d := .bool true) (ea_cons (ed_var rfl (dp_up w8.g hv7)) (ea_cons (ed_var rfl hvo) ea_nil)) rfl ⟨_, _, _, _, rfl, hone, hso, rfl⟩))) rfl) (fun e => nomatch e) fun _ G9 H9 w9 => ?_
      exact ⟨G9, (ww.trans w8).trans w9.wp, p8.up w9, _, _, _, _, _, _, _, rfl⟩
    · intro X hX
      have e60 : (2 : Nat) ^ 60 = 1152921504606846976 := by decide
      refine s_if K (c := kd == 0) w7.b (eb_test (ed_eqI (ed_vI rfl) ed_int)) (fun c G8 H8 w8 => ?_) fun c G8 H8 w8 => ?_
      · exact s_set K w8.b (ed_var rfl (dp_up w8.g hv7)) fun vo G9 H9 w9 hvo => hX _ _ ⟨G9, vo, _, _, _, rfl, (w8.trans w9).wp, (p7.up w8).up w9, hvo, hone⟩
      · refine s_if K (c := kd == 1) w8.b (eb_test (ed_eqI (ed_vI rfl) ed_int)) (fun c G9 H9 w9 => ?_) fun c G9 H9 w9 => ?_
        · refine q_set K (d := .list (fm (invTo p e) id (rg (1 - p) (p - (1 - p)).toNat))) w9.b (ed_lcR2 _ _ (ea_cons (ed_sub ed_int (ed_vI rfl)) (ea_cons (ed_vI rfl) ea_nil)) ⟨by omega, by omega, by omega, by omega⟩ fun r r0 r1 G10 H10 w10 => ?_) fun sv G10 H10 w10 hsv => ?_
          · exact turn_t rfl (eb_and (eb_test (ed_eqI (ed_modP (ed_toint (ed_sub (ed_mul (ed_vI rfl) (ed_vI rfl) (.inl ⟨by omega, by omega⟩)) ed_int)) (ed_vI rfl) (by omega)) ed_int)) fun _ => eb_test (ed_eqI (ed_modP (ed_toint (ed_add (ed_vI rfl) (ed_vI rfl))) ed_int (by decide)) ed_int)) fun _ => ed_vI rfl
          · have pz := ((p7.up w8).up w9).up w10
            have hv10 := dp_up ((w8.g.trans w9.g).trans w10.g) hv7
            generalize hl : fm (invTo p e) id (rg (1 - p) (p - (1 - p)).toNat) = l at hsv
            have hll : l.length < 1000000 := by
              have := fm_len (invTo p e) id (rg (1 - p) (p - (1 - p)).toNat)
              rw [rg_len, hl] at this; omega
            refine (fun h => h G10 H10 (Wp.refl w10.b) pz _ ?_ : EvP K a _ _ G10 H10 (fun d => ∃ x y, d = .tuple [x, y] ∧ SgnOk x y) → _) (ep_if (b := !l.isEmpty) (bp_eb fun G11 H11 w11 => eb_truL (ed_var rfl (dp_up w11.g hsv))) (fun c => EvP.to (ep_tup (ep_a2 (S2 := fun _ d => d ∈ l) (ep_vI rfl) fun _ _ => ep_pick (d := .list l) rfl (ep_var rfl hsv) (.inl rfl) (fun h => by rw [h] at c; cases c) hll) fun ds h => ?_) ?_) fun c => EvP.to (ep_var rfl hv10) fun d h => ⟨_, _, h, hone⟩)
            · rintro d vo G11 H11 ⟨x, y, rfl, hso⟩ w11 p11 hvo
              exact hX _ _ ⟨G11, vo, _, x, y, rfl, ((w8.trans w9).trans w10).wp.trans w11, p11, hvo, hso⟩
            · obtain ⟨x, y, rfl, _⟩ := h
              exact Nat.le_of_ble_eq_true rfl
            · rintro d ⟨ds, rfl, x, y, rfl, rfl, hy⟩
              rw [← hl] at hy
              obtain ⟨d, hd, hp, rfl⟩ := mem_fm hy
              obtain ⟨r, rfl, r0, r1⟩ := mem_rg hd
              have hp' : ((e * r - 1) % p == 0 && (p + r) % 2 == 1) = true := hp
              simp only [Bool.and_eq_true, beq_iff_eq] at hp'
              refine ⟨_, _, rfl, p, r, rfl, rfl, by omega, by omega, by omega, hp'.2, ?_⟩
              exact gcd_inv (by omega) hp'.1
        · refine s_when K (c := kd == 2) w9.b (eb_test (ed_eqI (ed_vI rfl) ed_int)) (fun c G10 H10 w10 => ?_) fun c G10 H10 w10 => ?_
          · refine q_set K (d := .list (fm (oddTo p) id (rg (1 - p) (p - (1 - p)).toNat))) w10.b (ed_lcR2 _ _ (ea_cons (ed_sub ed_int (ed_vI rfl)) (ea_cons (ed_vI rfl) ea_nil)) ⟨by omega, by omega, by omega, by omega⟩ fun r r0 r1 G11 H11 w11 => ?_) fun sv G11 H11 w11 hsv => ?_
            · exact turn_t rfl (eb_and (eb_test (ed_eqI (ed_modP (ed_toint (ed_add (ed_vI rfl) (ed_vI rfl))) ed_int (by decide)) ed_int)) fun _ => eb_test (ed_eqI (ed_call (ea_cons (ed_vI rfl) (ea_cons (ed_vI rfl) ea_nil)) rfl ⟨_, _, rfl, small200 (by omega), small200 (by omega), rfl⟩) ed_int)) fun _ => ed_vI rfl
            · have pz := (((p7.up w8).up w9).up w10).up w11
              have one : PyData.int e ∈ fm (oddTo p) id (rg (1 - p) (p - (1 - p)).toNat) := fm_mem (f := id) (rg_mem (by omega) (by omega)) (by show ((p + e) % 2 == 1 && ((Nat.gcd p.natAbs e.natAbs : Nat) : Int) == 1) = true; rw [a4, a5]; rfl)
              generalize hl : fm (oddTo p) id (rg (1 - p) (p - (1 - p)).toNat) = l at hsv one
              have hll : l.length < 1000000 := by
                have := fm_len (oddTo p) id (rg (1 - p) (p - (1 - p)).toNat)
                rw [rg_len, hl] at this; omega
              refine (fun h => h G11 H11 (Wp.refl w11.b) pz _ ?_ : EvP K a _ _ G11 H11 (fun d => ∃ x y, d = .tuple [x, y] ∧ SgnOk x y) → _) (EvP.to (ep_tup (ep_a2 (S2 := fun _ d => d ∈ l) (ep_vI rfl) fun _ _ => ep_pick (d := .list l) rfl (ep_var rfl hsv) (.inl rfl) (List.ne_nil_of_mem one) hll) fun ds h => ?_) ?_)
              · rintro d vo G12 H12 ⟨x, y, rfl, hso⟩ w12 p12 hvo
                exact hX _ _ ⟨G12, vo, _, x, y, rfl, (((w8.trans w9).trans w10).trans w11).wp.trans w12, p12, hvo, hso⟩
              · obtain ⟨x, y, rfl, _⟩ := h
                exact Nat.le_of_ble_eq_true rfl
              · rintro d ⟨ds, rfl, x, y, rfl, rfl, hy⟩
                rw [← hl] at hy
                obtain ⟨d, hd, hp, rfl⟩ := mem_fm hy
                obtain ⟨r, rfl, r0, r1⟩ := mem_rg hd
                have hp' : ((p + r) % 2 == 1 && ((Nat.gcd p.natAbs r.natAbs : Nat) : Int) == 1) = true := hp
                simp only [Bool.and_eq_true, beq_iff_eq] at hp'
                exact ⟨_, _, rfl, p, r, rfl, rfl, by omega, by omega, by omega, hp'.1, by omega⟩
          · exact hX _ _ ⟨G10, ov, _, x, y, rfl, ((w8.trans w9).trans w10).wp, ((p7.up w8).up w9).up w10, dp_up ((w8.g.trans w9.g).trans w10.g) hov, hxy2.ok (by omega)⟩
  · rintro σ' G3 H3 w3 p3 ⟨y2, y3, y4, y5, y6, y7, y8, rfl⟩
    have e9 : (10 : Int) ^ (9 : Int).toNat = 1000000000 := by decide
    have e6 : (10 : Int) ^ (6 : Int).toNat = 1000000 := by decide
    refine qp_set K (S := fun d => ∃ p : Int, d = .int p ∧ 999000000 < p ∧ p ≤ 1000000000) w3.b p3 (ep_opI (A := (· = 1000000000)) (B := fun z => 0 ≤ z ∧ z < 1000000) (ep_ed' (d := .int 1000000000) (fun _ _ _ => EvD.to (ed_pow ed_int ed_int ⟨by decide, by decide, by decide⟩) (by rw [e9])) ⟨_, rfl, rfl⟩)
      (ep_take rfl (ep_ed fun _ _ _ => EvD.to (ed_pow ed_int ed_int ⟨by decide, by decide, by decide⟩) (by rw [e6])) (by decide) (by decide)) fun i j G4 H4 hi hj w4 => ⟨.int (i - j), ⟨_, rfl, by omega, by omega⟩, ed_sub ed_int ed_int⟩) ?_
    rintro d pv G4 H4 ⟨p, rfl, q0, q1⟩ w4 p4 hpv
    cases hpv
    refine q_set K (d := .tuple [.int p, .int (if p % 2 = 1 then p - 1 else 1)]) w4.b (EvD.to (ed_if (b := p % 2 == 1) (eb_test (ed_eqI (ed_modP (ed_vI rfl) ed_int (by decide)) ed_int)) (fun _ => ed_tup (ea_cons (ed_vI rfl) (ea_cons (ed_sub (ed_vI rfl) ed_int) ea_nil))) fun _ => ed_tup (ea_cons (ed_vI rfl) (ea_cons ed_int ea_nil))) ?_) fun gv G5 H5 w5 hgv => ?_
    · by_cases h : p % 2 = 1
      · rw [if_pos (by simpa using h), if_pos h]
      · rw [if_neg (by simpa using h), if_neg h]
    generalize hge : (if p % 2 = 1 then p - 1 else 1) = ge at hgv
    have g3 : ge.natAbs < p.natAbs := by rw [← hge]; split <;> omega
    have g4 : (p + ge) % 2 = 1 := by rw [← hge]; split <;> omega
    have g5 : Nat.gcd p.natAbs ge.natAbs = 1 := by
      rw [← hge]; split
      · rw [Nat.gcd_comm, ← gcd_natAbs_sub (p := p - 1) (e := p) (c := 1) , show p - 1 - 1 * p = -1 by omega]; simp
      · simp
    refine q_when K (c := false) w5.b (EvB.to (eb_not (eb_val (ed_call (d := .bool true) (ea_cons (ed_call (d := .bool true) (ea_cons (ed_ix2T (ed_var rfl hgv) ed_int rfl) (ea_cons (ed_ix2T (ed_var rfl hgv) ed_int rfl) (ea_cons (ed_ix2T (ed_var rfl hgv) ed_int rfl) (ea_cons (ed_ix2T (ed_var rfl hgv) ed_int rfl) ea_nil)))) rfl ⟨_, _, _, _, rfl, by simp only [sgn_ok (show 1 ≤ p by omega) q1 g3 g4 g5, sdF_refl]⟩) (ea_cons ed_bl ea_nil)) rfl ⟨_, rfl, rfl, Nat.le_of_ble_eq_true rfl, Nat.le_of_ble_eq_true rfl, rfl⟩))) rfl) (fun e => nomatch e) fun _ G6 H6 w6 => ?_
    refine qp_set K (S := (· ∈ wrong0)) w6.b ((p4.up w5).up w6) (ep_pick (d := .list wrong0) rfl (ep_ed fun _ _ _ => (ed_lst (ea_cons (ed_tup (ea_cons ed_int (ea_cons ed_int ea_nil))) (ea_cons (ed_tup (ea_cons ed_int (ea_cons ed_int ea_nil))) (ea_cons (ed_tup (ea_cons ed_int (ea_cons ed_int ea_nil))) (ea_cons (ed_tup (ea_cons ed_int (ea_cons ed_int ea_nil))) (ea_cons (ed_tup (ea_cons ed_int (ea_cons ed_int ea_nil))) (ea_cons (ed_tup (ea_cons (ed_neg ed_int) (ea_cons ed_int ea_nil))) (ea_cons (ed_tup (ea_cons (ed_add (ed_pow ed_int ed_int ⟨by decide, by decide, by decide⟩) ed_int) (ea_cons ed_int ea_nil))) (ea_cons (ed_tup (ea_cons ed_non (ea_cons ed_int ea_nil))) (ea_cons (ed_tup (ea_cons ed_int (ea_cons ed_non ea_nil))) (ea_cons (ed_tup (ea_cons ed_bl (ea_cons ed_int ea_nil))) (ea_cons (ed_tup (ea_cons ed_int (ea_cons ed_bl ea_nil))) (ea_cons (ed_tup (ea_cons ed_str (ea_cons ed_int ea_nil))) (ea_cons (ed_tup (ea_cons (ed_lst ea_nil) (ea_cons ed_dnew ea_nil))) ea_nil))))))))))))))) (.inl rfl) (by simp [wrong0]) (by decide)) ?_
    rintro d v G7 H7 hd w7 p7 hv
    obtain ⟨x, y, rfl, hxy⟩ := wrong_bad d hd
    refine q_when K (c := false) w7.b (EvB.to (eb_not (eb_val (ed_call (d := .bool true) (ea_cons (ed_call (d := badD) (ea_cons (ed_var rfl hv) (ea_cons (ed_tup (ea_cons ed_int (ea_cons ed_int ea_nil))) ea_nil)) rfl ⟨_, _, _, _, rfl, .inl hxy, rfl⟩) (ea_cons (ed_tup (ea_cons ed_str (ea_cons ed_bl (ea_cons ed_bl ea_nil)))) ea_nil)) rfl ⟨badD, rfl, by decide +kernel, by decide +kernel, by decide +kernel, rfl⟩))) rfl) (fun e => nomatch e) fun _ G8 H8 w8 => ?_
    exact s_ret K w8.b (ed_call (d := .bool true) (ea_cons (ed_call (d := badD) (ea_cons (ed_tup (ea_cons ed_int (ea_cons ed_int ea_nil))) (ea_cons (ed_var rfl (dp_up w8.g hv)) ea_nil)) rfl ⟨_, _, _, _, rfl, .inr hxy, rfl⟩) (ea_cons (ed_tup (ea_cons ed_str (ea_cons ed_bl (ea_cons ed_bl ea_nil)))) ea_nil)) rfl ⟨badD, rfl, by decide +kernel, by decide +kernel, by decide +kernel, rfl⟩) fun v G9 H9 w9 hv => by
      cases hv
      exact k H9
end
end K71
namespace K71
open PySem PySem.Spec PyProof.Rows L2 L3 TF
theorem all_mk {l : PySem.W.OpenLaw} {w : World} {K : Fg} {h : Heap} {mg : Str → Option Value} {fa f_is_whole f_check_signed f_same_directed f__law_pool f__law_take f__law_pick f__law_is_integer f__law_same f__law_common f__law_put f__law_told f__law_product f__law_sum_of f__law_even f__law_pair f__law_fault f__law_due f__law_by_row f__law_signed f__law_so f__law_always f_law C_KnotError C_BadSignedFraction C_TooLongRow C_TooGreatFraction : Addr} (X : K.In h) (G : h.Ns mainGlobals mg) (hfa : mg "law" = some (.ref fa))
    {od_is_whole od_check_signed od_same_directed od__law_pool od__law_take od__law_pick od__law_is_integer od__law_same od__law_common od__law_put od__law_told od__law_product od__law_sum_of od__law_even od__law_pair od__law_fault od__law_due od__law_by_row od__law_signed od__law_so od__law_always od_law an_is_whole an_check_signed an_same_directed an__law_pool an__law_take an__law_pick an__law_is_integer an__law_same an__law_common an__law_put an__law_told an__law_product an__law_sum_of an__law_even an__law_pair an__law_fault an__law_due an__law_by_row an__law_signed an__law_so an__law_always an_law : Option Addr} {sl_is_whole sl_check_signed sl_same_directed sl__law_pool sl__law_take sl__law_pick sl__law_is_integer sl__law_same sl__law_common sl__law_put sl__law_told sl__law_product sl__law_sum_of sl__law_even sl__law_pair sl__law_fault sl__law_due sl__law_by_row sl__law_signed sl__law_so sl__law_always sl_law : Array (Option Value)} {oc_is_whole oc_check_signed oc_same_directed oc__law_pool oc__law_take oc__law_pick oc__law_is_integer oc__law_same oc__law_common oc__law_put oc__law_told oc__law_product oc__law_sum_of oc__law_even oc__law_pair oc__law_fault oc__law_due oc__law_by_row oc__law_signed oc__law_so oc__law_always oc_law kV_is_whole kV_check_signed kV_same_directed kV__law_pool kV__law_take kV__law_pick kV__law_is_integer kV__law_same kV__law_common kV__law_put kV__law_told kV__law_product kV__law_sum_of kV__law_even kV__law_pair kV__law_fault kV__law_due kV__law_by_row kV__law_signed kV__law_so kV__law_always kV_law do_is_whole do_check_signed do_same_directed do__law_pool do__law_take do__law_pick do__law_is_integer do__law_same do__law_common do__law_put do__law_told do__law_product do__law_sum_of do__law_even do__law_pair do__law_fault do__law_due do__law_by_row do__law_signed do__law_so do__law_always do_law pm_is_whole pm_check_signed pm_same_directed pm__law_pool pm__law_take pm__law_pick pm__law_is_integer pm__law_same pm__law_common pm__law_put pm__law_told pm__law_product pm__law_sum_of pm__law_even pm__law_pair pm__law_fault pm__law_due pm__law_by_row pm__law_signed pm__law_so pm__law_always pm_law cd_is_whole cd_check_signed cd_same_directed cd__law_pool cd__law_take cd__law_pick cd__law_is_integer cd__law_same cd__law_common cd__law_put cd__law_told cd__law_product cd__law_sum_of cd__law_even cd__law_pair cd__law_fault cd__law_due cd__law_by_row cd__law_signed cd__law_so cd__law_always cd_law ct_is_whole ct_check_signed ct_same_directed ct__law_pool ct__law_take ct__law_pick ct__law_is_integer ct__law_same ct__law_common ct__law_put ct__law_told ct__law_product ct__law_sum_of ct__law_even ct__law_pair ct__law_fault ct__law_due ct__law_by_row ct__law_signed ct__law_so ct__law_always ct_law : Value} {t_MOST_FRACTION : Tok}
    (a_is_whole : PySem.W.nsIn K mainGlobals "is_whole" = some (some (.ref f_is_whole)))
    (a_check_signed : PySem.W.nsIn K mainGlobals "check_signed" = some (some (.ref f_check_signed)))
    (a_same_directed : PySem.W.nsIn K mainGlobals "same_directed" = some (some (.ref f_same_directed)))
    (a__law_pool : PySem.W.nsIn K mainGlobals "_law_pool" = some (some (.ref f__law_pool)))
    (a__law_take : PySem.W.nsIn K mainGlobals "_law_take" = some (some (.ref f__law_take)))
    (a__law_pick : PySem.W.nsIn K mainGlobals "_law_pick" = some (some (.ref f__law_pick)))
    (a__law_is_integer : PySem.W.nsIn K mainGlobals "_law_is_integer" = some (some (.ref f__law_is_integer)))
    (a__law_same : PySem.W.nsIn K mainGlobals "_law_same" = some (some (.ref f__law_same)))
    (a__law_common : PySem.W.nsIn K mainGlobals "_law_common" = some (some (.ref f__law_common)))
    (a__law_put : PySem.W.nsIn K mainGlobals "_law_put" = some (some (.ref f__law_put)))
    (a__law_told : PySem.W.nsIn K mainGlobals "_law_told" = some (some (.ref f__law_told)))
    (a__law_product : PySem.W.nsIn K mainGlobals "_law_product" = some (some (.ref f__law_product)))
    (a__law_sum_of : PySem.W.nsIn K mainGlobals "_law_sum_of" = some (some (.ref f__law_sum_of)))
    (a__law_even : PySem.W.nsIn K mainGlobals "_law_even" = some (some (.ref f__law_even)))
    (a__law_pair : PySem.W.nsIn K mainGlobals "_law_pair" = some (some (.ref f__law_pair)))
    (a__law_fault : PySem.W.nsIn K mainGlobals "_law_fault" = some (some (.ref f__law_fault)))
    (a__law_due : PySem.W.nsIn K mainGlobals "_law_due" = some (some (.ref f__law_due)))
    (a__law_by_row : PySem.W.nsIn K mainGlobals "_law_by_row" = some (some (.ref f__law_by_row)))
    (a__law_signed : PySem.W.nsIn K mainGlobals "_law_signed" = some (some (.ref f__law_signed)))
    (a__law_so : PySem.W.nsIn K mainGlobals "_law_so" = some (some (.ref f__law_so)))
    (a__law_always : PySem.W.nsIn K mainGlobals "_law_always" = some (some (.ref f__law_always)))
    (a_law : PySem.W.nsIn K mainGlobals "law" = some (some (.ref f_law)))
    (a_KnotError : PySem.W.nsIn K mainGlobals "KnotError" = some (some (.ref C_KnotError)))
    (a_BadSignedFraction : PySem.W.nsIn K mainGlobals "BadSignedFraction" = some (some (.ref C_BadSignedFraction)))
    (a_TooLongRow : PySem.W.nsIn K mainGlobals "TooLongRow" = some (some (.ref C_TooLongRow)))
    (a_TooGreatFraction : PySem.W.nsIn K mainGlobals "TooGreatFraction" = some (some (.ref C_TooGreatFraction)))
    (a_MOST_FRACTION : PySem.W.nsIn K mainGlobals "MOST_FRACTION" = some (some (.int (1000000000) t_MOST_FRACTION)))
    (a_gcd : PySem.W.nsIn K mainGlobals "gcd" = some (some (.builtin "math.gcd")))
    (l_is_whole : K.lookup f_is_whole = some ⟨oc_is_whole, od_is_whole, .func (PySem.W.fnOf "is_whole" "is_whole" (defArgs s_is_whole) (defBody s_is_whole) (defScope s_is_whole) .none kV_is_whole do_is_whole pm_is_whole an_is_whole cd_is_whole ct_is_whole), sl_is_whole⟩)
    (c_is_whole : PySem.W.codeIn K cd_is_whole "is_whole" = true)
    (k_is_whole : PySem.W.keepIn K (.ref f_is_whole) = true)
    (l_check_signed : K.lookup f_check_signed = some ⟨oc_check_signed, od_check_signed, .func (PySem.W.fnOf "check_signed" "check_signed" (defArgs s_check_signed) (defBody s_check_signed) (defScope s_check_signed) .none kV_check_signed do_check_signed pm_check_signed an_check_signed cd_check_signed ct_check_signed), sl_check_signed⟩)
    (c_check_signed : PySem.W.codeIn K cd_check_signed "check_signed" = true)
    (k_check_signed : PySem.W.keepIn K (.ref f_check_signed) = true)
    (l_same_directed : K.lookup f_same_directed = some ⟨oc_same_directed, od_same_directed, .func (PySem.W.fnOf "same_directed" "same_directed" (defArgs s_same_directed) (defBody s_same_directed) (defScope s_same_directed) .none kV_same_directed do_same_directed pm_same_directed an_same_directed cd_same_directed ct_same_directed), sl_same_directed⟩)
    (c_same_directed : PySem.W.codeIn K cd_same_directed "same_directed" = true)
    (k_same_directed : PySem.W.keepIn K (.ref f_same_directed) = true)
    (l__law_pool : K.lookup f__law_pool = some ⟨oc__law_pool, od__law_pool, .func (PySem.W.fnOf "_law_pool" "_law_pool" (defArgs s__law_pool) (defBody s__law_pool) (defScope s__law_pool) .none kV__law_pool do__law_pool pm__law_pool an__law_pool cd__law_pool ct__law_pool), sl__law_pool⟩)
    (c__law_pool : PySem.W.codeIn K cd__law_pool "_law_pool" = true)
    (k__law_pool : PySem.W.keepIn K (.ref f__law_pool) = true)
    (l__law_take : K.lookup f__law_take = some ⟨oc__law_take, od__law_take, .func (PySem.W.fnOf "_law_take" "_law_take" (defArgs s__law_take) (defBody s__law_take) (defScope s__law_take) .none kV__law_take do__law_take pm__law_take an__law_take cd__law_take ct__law_take), sl__law_take⟩)
    (c__law_take : PySem.W.codeIn K cd__law_take "_law_take" = true)
    (k__law_take : PySem.W.keepIn K (.ref f__law_take) = true)
    (l__law_pick : K.lookup f__law_pick = some ⟨oc__law_pick, od__law_pick, .func (PySem.W.fnOf "_law_pick" "_law_pick" (defArgs s__law_pick) (defBody s__law_pick) (defScope s__law_pick) .none kV__law_pick do__law_pick pm__law_pick an__law_pick cd__law_pick ct__law_pick), sl__law_pick⟩)
    (c__law_pick : PySem.W.codeIn K cd__law_pick "_law_pick" = true)
    (k__law_pick : PySem.W.keepIn K (.ref f__law_pick) = true)
    (l__law_is_integer : K.lookup f__law_is_integer = some ⟨oc__law_is_integer, od__law_is_integer, .func (PySem.W.fnOf "_law_is_integer" "_law_is_integer" (defArgs s__law_is_integer) (defBody s__law_is_integer) (defScope s__law_is_integer) .none kV__law_is_integer do__law_is_integer pm__law_is_integer an__law_is_integer cd__law_is_integer ct__law_is_integer), sl__law_is_integer⟩)
    (c__law_is_integer : PySem.W.codeIn K cd__law_is_integer "_law_is_integer" = true)
    (k__law_is_integer : PySem.W.keepIn K (.ref f__law_is_integer) = true)
    (l__law_same : K.lookup f__law_same = some ⟨oc__law_same, od__law_same, .func (PySem.W.fnOf "_law_same" "_law_same" (defArgs s__law_same) (defBody s__law_same) (defScope s__law_same) .none kV__law_same do__law_same pm__law_same an__law_same cd__law_same ct__law_same), sl__law_same⟩)
    (c__law_same : PySem.W.codeIn K cd__law_same "_law_same" = true)
    (k__law_same : PySem.W.keepIn K (.ref f__law_same) = true)
    (l__law_common : K.lookup f__law_common = some ⟨oc__law_common, od__law_common, .func (PySem.W.fnOf "_law_common" "_law_common" (defArgs s__law_common) (defBody s__law_common) (defScope s__law_common) .none kV__law_common do__law_common pm__law_common an__law_common cd__law_common ct__law_common), sl__law_common⟩)
    (c__law_common : PySem.W.codeIn K cd__law_common "_law_common" = true)
    (k__law_common : PySem.W.keepIn K (.ref f__law_common) = true)
    (l__law_put : K.lookup f__law_put = some ⟨oc__law_put, od__law_put, .func (PySem.W.fnOf "_law_put" "_law_put" (defArgs s__law_put) (defBody s__law_put) (defScope s__law_put) .none kV__law_put do__law_put pm__law_put an__law_put cd__law_put ct__law_put), sl__law_put⟩)
    (c__law_put : PySem.W.codeIn K cd__law_put "_law_put" = true)
    (k__law_put : PySem.W.keepIn K (.ref f__law_put) = true)
    (l__law_told : K.lookup f__law_told = some ⟨oc__law_told, od__law_told, .func (PySem.W.fnOf "_law_told" "_law_told" (defArgs s__law_told) (defBody s__law_told) (defScope s__law_told) .none kV__law_told do__law_told pm__law_told an__law_told cd__law_told ct__law_told), sl__law_told⟩)
    (c__law_told : PySem.W.codeIn K cd__law_told "_law_told" = true)
    (k__law_told : PySem.W.keepIn K (.ref f__law_told) = true)
    (l__law_product : K.lookup f__law_product = some ⟨oc__law_product, od__law_product, .func (PySem.W.fnOf "_law_product" "_law_product" (defArgs s__law_product) (defBody s__law_product) (defScope s__law_product) .none kV__law_product do__law_product pm__law_product an__law_product cd__law_product ct__law_product), sl__law_product⟩)
    (c__law_product : PySem.W.codeIn K cd__law_product "_law_product" = true)
    (k__law_product : PySem.W.keepIn K (.ref f__law_product) = true)
    (l__law_sum_of : K.lookup f__law_sum_of = some ⟨oc__law_sum_of, od__law_sum_of, .func (PySem.W.fnOf "_law_sum_of" "_law_sum_of" (defArgs s__law_sum_of) (defBody s__law_sum_of) (defScope s__law_sum_of) .none kV__law_sum_of do__law_sum_of pm__law_sum_of an__law_sum_of cd__law_sum_of ct__law_sum_of), sl__law_sum_of⟩)
    (c__law_sum_of : PySem.W.codeIn K cd__law_sum_of "_law_sum_of" = true)
    (k__law_sum_of : PySem.W.keepIn K (.ref f__law_sum_of) = true)
    (l__law_even : K.lookup f__law_even = some ⟨oc__law_even, od__law_even, .func (PySem.W.fnOf "_law_even" "_law_even" (defArgs s__law_even) (defBody s__law_even) (defScope s__law_even) .none kV__law_even do__law_even pm__law_even an__law_even cd__law_even ct__law_even), sl__law_even⟩)
    (c__law_even : PySem.W.codeIn K cd__law_even "_law_even" = true)
    (k__law_even : PySem.W.keepIn K (.ref f__law_even) = true)
    (l__law_pair : K.lookup f__law_pair = some ⟨oc__law_pair, od__law_pair, .func (PySem.W.fnOf "_law_pair" "_law_pair" (defArgs s__law_pair) (defBody s__law_pair) (defScope s__law_pair) .none kV__law_pair do__law_pair pm__law_pair an__law_pair cd__law_pair ct__law_pair), sl__law_pair⟩)
    (c__law_pair : PySem.W.codeIn K cd__law_pair "_law_pair" = true)
    (k__law_pair : PySem.W.keepIn K (.ref f__law_pair) = true)
    (l__law_fault : K.lookup f__law_fault = some ⟨oc__law_fault, od__law_fault, .func (PySem.W.fnOf "_law_fault" "_law_fault" (defArgs s__law_fault) (defBody s__law_fault) (defScope s__law_fault) .none kV__law_fault do__law_fault pm__law_fault an__law_fault cd__law_fault ct__law_fault), sl__law_fault⟩)
    (c__law_fault : PySem.W.codeIn K cd__law_fault "_law_fault" = true)
    (k__law_fault : PySem.W.keepIn K (.ref f__law_fault) = true)
    (l__law_due : K.lookup f__law_due = some ⟨oc__law_due, od__law_due, .func (PySem.W.fnOf "_law_due" "_law_due" (defArgs s__law_due) (defBody s__law_due) (defScope s__law_due) .none kV__law_due do__law_due pm__law_due an__law_due cd__law_due ct__law_due), sl__law_due⟩)
    (c__law_due : PySem.W.codeIn K cd__law_due "_law_due" = true)
    (k__law_due : PySem.W.keepIn K (.ref f__law_due) = true)
    (l__law_by_row : K.lookup f__law_by_row = some ⟨oc__law_by_row, od__law_by_row, .func (PySem.W.fnOf "_law_by_row" "_law_by_row" (defArgs s__law_by_row) (defBody s__law_by_row) (defScope s__law_by_row) .none kV__law_by_row do__law_by_row pm__law_by_row an__law_by_row cd__law_by_row ct__law_by_row), sl__law_by_row⟩)
    (c__law_by_row : PySem.W.codeIn K cd__law_by_row "_law_by_row" = true)
    (k__law_by_row : PySem.W.keepIn K (.ref f__law_by_row) = true)
    (l__law_signed : K.lookup f__law_signed = some ⟨oc__law_signed, od__law_signed, .func (PySem.W.fnOf "_law_signed" "_law_signed" (defArgs s__law_signed) (defBody s__law_signed) (defScope s__law_signed) .none kV__law_signed do__law_signed pm__law_signed an__law_signed cd__law_signed ct__law_signed), sl__law_signed⟩)
    (c__law_signed : PySem.W.codeIn K cd__law_signed "_law_signed" = true)
    (k__law_signed : PySem.W.keepIn K (.ref f__law_signed) = true)
    (l__law_so : K.lookup f__law_so = some ⟨oc__law_so, od__law_so, .func (PySem.W.fnOf "_law_so" "_law_so" (defArgs s__law_so) (defBody s__law_so) (defScope s__law_so) .none kV__law_so do__law_so pm__law_so an__law_so cd__law_so ct__law_so), sl__law_so⟩)
    (c__law_so : PySem.W.codeIn K cd__law_so "_law_so" = true)
    (k__law_so : PySem.W.keepIn K (.ref f__law_so) = true)
    (l__law_always : K.lookup f__law_always = some ⟨oc__law_always, od__law_always, .func (PySem.W.fnOf "_law_always" "_law_always" (defArgs s__law_always) (defBody s__law_always) (defScope s__law_always) .none kV__law_always do__law_always pm__law_always an__law_always cd__law_always ct__law_always), sl__law_always⟩)
    (c__law_always : PySem.W.codeIn K cd__law_always "_law_always" = true)
    (k__law_always : PySem.W.keepIn K (.ref f__law_always) = true)
    (l_law : K.lookup f_law = some ⟨oc_law, od_law, .func (PySem.W.fnOf "law" "law" (defArgs s_law) (defBody s_law) (defScope s_law) .none kV_law do_law pm_law an_law cd_law ct_law), sl_law⟩)
    (c_law : PySem.W.codeIn K cd_law "law" = true)
    (k_law : PySem.W.keepIn K (.ref f_law) = true)
    (x_BadSignedFraction_0 : PySem.W.excIn K C_BadSignedFraction [.type "ValueError", .type "Exception", .type "BaseException", .type "object"] "ValueError.__new__" = true)
    (x_BadSignedFraction_1 : PySem.W.keepIn K (.ref C_BadSignedFraction) = true)
    (x_BadSignedFraction_2 : PySem.W.findIn K (.ref C_BadSignedFraction) "__getattribute__" = some (some (.builtin "BaseException.__getattribute__")))
    (x_BadSignedFraction_3 : PySem.W.findIn K (.ref C_BadSignedFraction) "__getattr__" = some none)
    (x_BadSignedFraction_4 : PySem.W.subIn K (.ref C_BadSignedFraction) (.type "BaseException") = some true)
    (x_BadSignedFraction_5 : PySem.W.hasDictIn K C_BadSignedFraction = true)
    (x_BadSignedFraction_6 : PySem.W.findIn K (.ref C_BadSignedFraction) "__class__" = some (some (.builtin "object.__class__")))
    (x_BadSignedFraction_7 : PySem.W.specialIn K (.builtin "object.__class__") "__get__" = some (some (.builtin "getset_descriptor.__get__")))
    (x_BadSignedFraction_8 : PySem.W.takesIn K (.builtin "object.__class__") = some true)
    (x_BadSignedFraction_9 : PySem.W.mroIn K C_BadSignedFraction (.type "object") = some true)
    (x_BadSignedFraction_10 : PySem.W.typeIn K (.ref C_BadSignedFraction) = some (.type "type"))
    (pk_BadSignedFraction_KnotError : PySem.W.kitOne K (.ref C_BadSignedFraction) (.ref C_KnotError) = some true)
    (pe_BadSignedFraction_BadSignedFraction : PySem.W.subIn K (.ref C_BadSignedFraction) (.ref C_BadSignedFraction) = some true)
    (pk_BadSignedFraction_TooLongRow : PySem.W.kitOne K (.ref C_BadSignedFraction) (.ref C_TooLongRow) = some false)
    (pk_BadSignedFraction_TooGreatFraction : PySem.W.kitOne K (.ref C_BadSignedFraction) (.ref C_TooGreatFraction) = some false)
    (z_abs : PySem.W.nsIn K mainGlobals "abs" = some none)
    (z_all : PySem.W.nsIn K mainGlobals "all" = some none)
    (z_bool : PySem.W.nsIn K mainGlobals "bool" = some none)
    (z_dict : PySem.W.nsIn K mainGlobals "dict" = some none)
    (z_int : PySem.W.nsIn K mainGlobals "int" = some none)
    (z_isinstance : PySem.W.nsIn K mainGlobals "isinstance" = some none)
    (z_len : PySem.W.nsIn K mainGlobals "len" = some none)
    (z_list : PySem.W.nsIn K mainGlobals "list" = some none)
    (z_range : PySem.W.nsIn K mainGlobals "range" = some none)
    (z_sorted : PySem.W.nsIn K mainGlobals "sorted" = some none)
    (z_str : PySem.W.nsIn K mainGlobals "str" = some none)
    (z_tuple : PySem.W.nsIn K mainGlobals "tuple" = some none)
    : ∃ fd : FuncData, (∀ (s : Shared) (v : Value), BindsTo s fd ⟨[v], []⟩ [("script", v)]) ∧ ∀ base : Heap, K.In base → base.Ns mainGlobals mg → FnOk l.prog w K mg base (L2N.CX l.prog w) 12 fa fd ["script"] (spLaw K) := by
  have e := hfa.symm.trans (PySem.W.mg_of X G a_law)
  cases e
  have T : Txt K mg ⟨f_is_whole, PySem.W.fnOf "is_whole" "is_whole" (defArgs s_is_whole) (defBody s_is_whole) (defScope s_is_whole) .none kV_is_whole do_is_whole pm_is_whole an_is_whole cd_is_whole ct_is_whole, f_check_signed, PySem.W.fnOf "check_signed" "check_signed" (defArgs s_check_signed) (defBody s_check_signed) (defScope s_check_signed) .none kV_check_signed do_check_signed pm_check_signed an_check_signed cd_check_signed ct_check_signed, f_same_directed, PySem.W.fnOf "same_directed" "same_directed" (defArgs s_same_directed) (defBody s_same_directed) (defScope s_same_directed) .none kV_same_directed do_same_directed pm_same_directed an_same_directed cd_same_directed ct_same_directed, f__law_pool, PySem.W.fnOf "_law_pool" "_law_pool" (defArgs s__law_pool) (defBody s__law_pool) (defScope s__law_pool) .none kV__law_pool do__law_pool pm__law_pool an__law_pool cd__law_pool ct__law_pool, f__law_take, PySem.W.fnOf "_law_take" "_law_take" (defArgs s__law_take) (defBody s__law_take) (defScope s__law_take) .none kV__law_take do__law_take pm__law_take an__law_take cd__law_take ct__law_take, f__law_pick, PySem.W.fnOf "_law_pick" "_law_pick" (defArgs s__law_pick) (defBody s__law_pick) (defScope s__law_pick) .none kV__law_pick do__law_pick pm__law_pick an__law_pick cd__law_pick ct__law_pick, f__law_is_integer, PySem.W.fnOf "_law_is_integer" "_law_is_integer" (defArgs s__law_is_integer) (defBody s__law_is_integer) (defScope s__law_is_integer) .none kV__law_is_integer do__law_is_integer pm__law_is_integer an__law_is_integer cd__law_is_integer ct__law_is_integer, f__law_same, PySem.W.fnOf "_law_same" "_law_same" (defArgs s__law_same) (defBody s__law_same) (defScope s__law_same) .none kV__law_same do__law_same pm__law_same an__law_same cd__law_same ct__law_same, f__law_common, PySem.W.fnOf "_law_common" "_law_common" (defArgs s__law_common) (defBody s__law_common) (defScope s__law_common) .none kV__law_common do__law_common pm__law_common an__law_common cd__law_common ct__law_common, f__law_put, PySem.W.fnOf "_law_put" "_law_put" (defArgs s__law_put) (defBody s__law_put) (defScope s__law_put) .none kV__law_put do__law_put pm__law_put an__law_put cd__law_put ct__law_put, f__law_told, PySem.W.fnOf "_law_told" "_law_told" (defArgs s__law_told) (defBody s__law_told) (defScope s__law_told) .none kV__law_told do__law_told pm__law_told an__law_told cd__law_told ct__law_told, f__law_product, PySem.W.fnOf "_law_product" "_law_product" (defArgs s__law_product) (defBody s__law_product) (defScope s__law_product) .none kV__law_product do__law_product pm__law_product an__law_product cd__law_product ct__law_product, f__law_sum_of, PySem.W.fnOf "_law_sum_of" "_law_sum_of" (defArgs s__law_sum_of) (defBody s__law_sum_of) (defScope s__law_sum_of) .none kV__law_sum_of do__law_sum_of pm__law_sum_of an__law_sum_of cd__law_sum_of ct__law_sum_of, f__law_even, PySem.W.fnOf "_law_even" "_law_even" (defArgs s__law_even) (defBody s__law_even) (defScope s__law_even) .none kV__law_even do__law_even pm__law_even an__law_even cd__law_even ct__law_even, f__law_pair, PySem.W.fnOf "_law_pair" "_law_pair" (defArgs s__law_pair) (defBody s__law_pair) (defScope s__law_pair) .none kV__law_pair do__law_pair pm__law_pair an__law_pair cd__law_pair ct__law_pair, f__law_fault, PySem.W.fnOf "_law_fault" "_law_fault" (defArgs s__law_fault) (defBody s__law_fault) (defScope s__law_fault) .none kV__law_fault do__law_fault pm__law_fault an__law_fault cd__law_fault ct__law_fault, f__law_due, PySem.W.fnOf "_law_due" "_law_due" (defArgs s__law_due) (defBody s__law_due) (defScope s__law_due) .none kV__law_due do__law_due pm__law_due an__law_due cd__law_due ct__law_due, f__law_by_row, PySem.W.fnOf "_law_by_row" "_law_by_row" (defArgs s__law_by_row) (defBody s__law_by_row) (defScope s__law_by_row) .none kV__law_by_row do__law_by_row pm__law_by_row an__law_by_row cd__law_by_row ct__law_by_row, f__law_signed, PySem.W.fnOf "_law_signed" "_law_signed" (defArgs s__law_signed) (defBody s__law_signed) (defScope s__law_signed) .none kV__law_signed do__law_signed pm__law_signed an__law_signed cd__law_signed ct__law_signed, f__law_so, PySem.W.fnOf "_law_so" "_law_so" (defArgs s__law_so) (defBody s__law_so) (defScope s__law_so) .none kV__law_so do__law_so pm__law_so an__law_so cd__law_so ct__law_so, f__law_always, PySem.W.fnOf "_law_always" "_law_always" (defArgs s__law_always) (defBody s__law_always) (defScope s__law_always) .none kV__law_always do__law_always pm__law_always an__law_always cd__law_always ct__law_always, fa, PySem.W.fnOf "law" "law" (defArgs s_law) (defBody s_law) (defScope s_law) .none kV_law do_law pm_law an_law cd_law ct_law, C_KnotError, C_BadSignedFraction, C_TooLongRow, C_TooGreatFraction⟩ := {
    F_is_whole := fun_mk (st := s_is_whole) l_is_whole c_is_whole k_is_whole,
    m_is_whole := PySem.W.mg_of X G a_is_whole,
    b_is_whole := (fun_mk (st := s_is_whole) l_is_whole c_is_whole k_is_whole).binds (ps := ["value"]) fun _ _ _ _ _ _ us hl => match us, hl with | [_], _ => rfl,
    F_check_signed := fun_mk (st := s_check_signed) l_check_signed c_check_signed k_check_signed,
    m_check_signed := PySem.W.mg_of X G a_check_signed,
    b_check_signed := (fun_mk (st := s_check_signed) l_check_signed c_check_signed k_check_signed).binds (ps := ["p", "e"]) fun _ _ _ _ _ _ us hl => match us, hl with | [_, _], _ => rfl,
    F_same_directed := fun_mk (st := s_same_directed) l_same_directed c_same_directed k_same_directed,
    m_same_directed := PySem.W.mg_of X G a_same_directed,
    b_same_directed := (fun_mk (st := s_same_directed) l_same_directed c_same_directed k_same_directed).binds (ps := ["p", "e", "p2", "e2"]) fun _ _ _ _ _ _ us hl => match us, hl with | [_, _, _, _], _ => rfl,
    F__law_pool := fun_mk (st := s__law_pool) l__law_pool c__law_pool k__law_pool,
    m__law_pool := PySem.W.mg_of X G a__law_pool,
    b__law_pool := (fun_mk (st := s__law_pool) l__law_pool c__law_pool k__law_pool).binds (ps := ["script"]) fun _ _ _ _ _ _ us hl => match us, hl with | [_], _ => rfl,
    F__law_take := fun_mk (st := s__law_take) l__law_take c__law_take k__law_take,
    m__law_take := PySem.W.mg_of X G a__law_take,
    b__law_take := (fun_mk (st := s__law_take) l__law_take c__law_take k__law_take).binds (ps := ["pool", "many"]) fun _ _ _ _ _ _ us hl => match us, hl with | [_, _], _ => rfl,
    F__law_pick := fun_mk (st := s__law_pick) l__law_pick c__law_pick k__law_pick,
    m__law_pick := PySem.W.mg_of X G a__law_pick,
    b__law_pick := (fun_mk (st := s__law_pick) l__law_pick c__law_pick k__law_pick).binds (ps := ["pool", "rows"]) fun _ _ _ _ _ _ us hl => match us, hl with | [_, _], _ => rfl,
    F__law_is_integer := fun_mk (st := s__law_is_integer) l__law_is_integer c__law_is_integer k__law_is_integer,
    m__law_is_integer := PySem.W.mg_of X G a__law_is_integer,
    b__law_is_integer := (fun_mk (st := s__law_is_integer) l__law_is_integer c__law_is_integer k__law_is_integer).binds (ps := ["actual"]) fun _ _ _ _ _ _ us hl => match us, hl with | [_], _ => rfl,
    F__law_same := fun_mk (st := s__law_same) l__law_same c__law_same k__law_same,
    m__law_same := PySem.W.mg_of X G a__law_same,
    b__law_same := (fun_mk (st := s__law_same) l__law_same c__law_same k__law_same).binds (ps := ["actual", "due"]) fun _ _ _ _ _ _ us hl => match us, hl with | [_, _], _ => rfl,
    F__law_common := fun_mk (st := s__law_common) l__law_common c__law_common k__law_common,
    m__law_common := PySem.W.mg_of X G a__law_common,
    b__law_common := (fun_mk (st := s__law_common) l__law_common c__law_common k__law_common).binds (ps := ["one", "other"]) fun _ _ _ _ _ _ us hl => match us, hl with | [_, _], _ => rfl,
    F__law_put := fun_mk (st := s__law_put) l__law_put c__law_put k__law_put,
    m__law_put := PySem.W.mg_of X G a__law_put,
    b__law_put := (fun_mk (st := s__law_put) l__law_put c__law_put k__law_put).binds (ps := ["found", "power", "number"]) fun _ _ _ _ _ _ us hl => match us, hl with | [_, _, _], _ => rfl,
    F__law_told := fun_mk (st := s__law_told) l__law_told c__law_told k__law_told,
    m__law_told := PySem.W.mg_of X G a__law_told,
    b__law_told := (fun_mk (st := s__law_told) l__law_told c__law_told k__law_told).binds (ps := ["found"]) fun _ _ _ _ _ _ us hl => match us, hl with | [_], _ => rfl,
    F__law_product := fun_mk (st := s__law_product) l__law_product c__law_product k__law_product,
    m__law_product := PySem.W.mg_of X G a__law_product,
    b__law_product := (fun_mk (st := s__law_product) l__law_product c__law_product k__law_product).binds (ps := ["one", "other"]) fun _ _ _ _ _ _ us hl => match us, hl with | [_, _], _ => rfl,
    F__law_sum_of := fun_mk (st := s__law_sum_of) l__law_sum_of c__law_sum_of k__law_sum_of,
    m__law_sum_of := PySem.W.mg_of X G a__law_sum_of,
    b__law_sum_of := (fun_mk (st := s__law_sum_of) l__law_sum_of c__law_sum_of k__law_sum_of).binds (ps := ["one", "other"]) fun _ _ _ _ _ _ us hl => match us, hl with | [_, _], _ => rfl,
    F__law_even := fun_mk (st := s__law_even) l__law_even c__law_even k__law_even,
    m__law_even := PySem.W.mg_of X G a__law_even,
    b__law_even := (fun_mk (st := s__law_even) l__law_even c__law_even k__law_even).binds (ps := ["p", "e"]) fun _ _ _ _ _ _ us hl => match us, hl with | [_, _], _ => rfl,
    F__law_pair := fun_mk (st := s__law_pair) l__law_pair c__law_pair k__law_pair,
    m__law_pair := PySem.W.mg_of X G a__law_pair,
    b__law_pair := (fun_mk (st := s__law_pair) l__law_pair c__law_pair k__law_pair).binds (ps := ["pool", "most"]) fun _ _ _ _ _ _ us hl => match us, hl with | [_, _], _ => rfl,
    F__law_fault := fun_mk (st := s__law_fault) l__law_fault c__law_fault k__law_fault,
    m__law_fault := PySem.W.mg_of X G a__law_fault,
    b__law_fault := (fun_mk (st := s__law_fault) l__law_fault c__law_fault k__law_fault).binds (ps := ["one", "other"]) fun _ _ _ _ _ _ us hl => match us, hl with | [_, _], _ => rfl,
    F__law_due := fun_mk (st := s__law_due) l__law_due c__law_due k__law_due,
    m__law_due := PySem.W.mg_of X G a__law_due,
    b__law_due := (fun_mk (st := s__law_due) l__law_due c__law_due k__law_due).binds (ps := ["one", "other"]) fun _ _ _ _ _ _ us hl => match us, hl with | [_, _], _ => rfl,
    F__law_by_row := fun_mk (st := s__law_by_row) l__law_by_row c__law_by_row k__law_by_row,
    m__law_by_row := PySem.W.mg_of X G a__law_by_row,
    b__law_by_row := (fun_mk (st := s__law_by_row) l__law_by_row c__law_by_row k__law_by_row).binds (ps := ["row"]) fun _ _ _ _ _ _ us hl => match us, hl with | [_], _ => rfl,
    F__law_signed := fun_mk (st := s__law_signed) l__law_signed c__law_signed k__law_signed,
    m__law_signed := PySem.W.mg_of X G a__law_signed,
    b__law_signed := (fun_mk (st := s__law_signed) l__law_signed c__law_signed k__law_signed).binds (ps := ["pool", "most"]) fun _ _ _ _ _ _ us hl => match us, hl with | [_, _], _ => rfl,
    F__law_so := fun_mk (st := s__law_so) l__law_so c__law_so k__law_so,
    m__law_so := PySem.W.mg_of X G a__law_so,
    b__law_so := (fun_mk (st := s__law_so) l__law_so c__law_so k__law_so).binds (ps := ["one", "other"]) fun _ _ _ _ _ _ us hl => match us, hl with | [_, _], _ => rfl,
    F__law_always := fun_mk (st := s__law_always) l__law_always c__law_always k__law_always,
    m__law_always := PySem.W.mg_of X G a__law_always,
    b__law_always := (fun_mk (st := s__law_always) l__law_always c__law_always k__law_always).binds (ps := []) fun _ _ _ _ _ _ us hl => match us, hl with | [], _ => rfl,
    F_law := fun_mk (st := s_law) l_law c_law k_law,
    m_law := PySem.W.mg_of X G a_law,
    m_KnotError := PySem.W.mg_of X G a_KnotError,
    m_BadSignedFraction := PySem.W.mg_of X G a_BadSignedFraction,
    c_BadSignedFraction := ⟨x_BadSignedFraction_0, x_BadSignedFraction_1, ⟨x_BadSignedFraction_2, x_BadSignedFraction_3, x_BadSignedFraction_4, x_BadSignedFraction_5, x_BadSignedFraction_6, x_BadSignedFraction_7, x_BadSignedFraction_8, x_BadSignedFraction_9⟩, x_BadSignedFraction_10⟩,
    m_TooLongRow := PySem.W.mg_of X G a_TooLongRow,
    m_TooGreatFraction := PySem.W.mg_of X G a_TooGreatFraction,
    k_BadSignedFraction_KnotError := pk_BadSignedFraction_KnotError,
    e_BadSignedFraction_BadSignedFraction := pe_BadSignedFraction_BadSignedFraction,
    k_BadSignedFraction_TooLongRow := pk_BadSignedFraction_TooLongRow,
    k_BadSignedFraction_TooGreatFraction := pk_BadSignedFraction_TooGreatFraction,
    m_MOST_FRACTION := ⟨_, PySem.W.mg_of X G a_MOST_FRACTION⟩,
    m_gcd := PySem.W.mg_of X G a_gcd,
    z_abs := PySem.W.mg_none_of X G z_abs,
    z_all := PySem.W.mg_none_of X G z_all,
    z_bool := PySem.W.mg_none_of X G z_bool,
    z_dict := PySem.W.mg_none_of X G z_dict,
    z_int := PySem.W.mg_none_of X G z_int,
    z_isinstance := PySem.W.mg_none_of X G z_isinstance,
    z_len := PySem.W.mg_none_of X G z_len,
    z_list := PySem.W.mg_none_of X G z_list,
    z_range := PySem.W.mg_none_of X G z_range,
    z_sorted := PySem.W.mg_none_of X G z_sorted,
    z_str := PySem.W.mg_none_of X G z_str,
    z_tuple := PySem.W.mg_none_of X G z_tuple }
  exact ⟨PySem.W.fnOf "law" "law" (defArgs s_law) (defBody s_law) (defScope s_law) .none kV_law do_law pm_law an_law cd_law ct_law, fun s v => .of_eq rfl, fun base _ _ => ok_law T⟩
theorem walk {l : PySem.W.OpenLaw} {q : Program} {loose : List Str} {XP : (Str → Option Value) → Heap → Prop} {YP : World → Heap → Prop} {d : DefRec} {K : Params → PySem.W.Frag} (hn : l.most = some 63) (hdf : d.params.defaults = [])
    (hY : ∀ (w : World) (h : Heap), YP w h → (K w.params).In h)
    (F : ∀ (w : World) (mg : Str → Option Value) (fa : Addr) (h : Heap), (K w.params).In h → h.Ns mainGlobals mg → mg d.name = some (.ref fa) →
      ∃ fd : FuncData, (∀ (s : Shared) (u : Value), BindsTo s fd ⟨[u], []⟩ [("script", u)]) ∧ ∀ base : Heap, (K w.params).In base → base.Ns mainGlobals mg → FnOk l.prog w (K w.params) mg base (L2N.CX l.prog w) 12 fa fd ["script"] (spLaw (K w.params))) :
    PySem.W.WalkO q loose XP YP l.row.toRowW d [] (fun f vs => PySem.call f vs) :=
  L2.walk_of (n := 63) (k := 12) (x := "script") (CX := fun w => L2N.CX l.prog w) (sp := fun w => spLaw (K w.params)) hn (by decide) hdf ⟨rfl, by decide, by decide⟩ hY F (fun _ _ a ns hl _ hS => ⟨_, a, ns, rfl, Same.refl _, hS, hl, fun _ => rfl⟩) fun _ _ _ _ _ z => by
    obtain ⟨_, _, _, _, _, _, _, _, _, _, _, _, z⟩ := z
    exact z
end K71
open PySem PySem.W PyProof.Rows in
set_option maxRecDepth 100000 in
set_option maxHeartbeats 0 in
theorem PySem.Challenge.cw_knotproved_k71_whole_directed_two_bridge_holds : PySem.Challenge.rw_knotproved_k71_whole_directed_two_bridge.Holds := by
  w_on; o_law; k_head; (case hw => w_witness2)
  k_fill
  refine K71.walk (l := PySem.Challenge.rw_knotproved_k71_whole_directed_two_bridge) rfl rfl (fun w h Y => PySem.W.kIn_of Y) ?F
  case F =>
    intro w mg fa h KX G hmg
    refine' K71.all_mk KX G hmg ?a_is_whole ?a_check_signed ?a_same_directed ?a__law_pool ?a__law_take ?a__law_pick ?a__law_is_integer ?a__law_same ?a__law_common ?a__law_put ?a__law_told ?a__law_product ?a__law_sum_of ?a__law_even ?a__law_pair ?a__law_fault ?a__law_due ?a__law_by_row ?a__law_signed ?a__law_so ?a__law_always ?a_law ?a_KnotError ?a_BadSignedFraction ?a_TooLongRow ?a_TooGreatFraction ?a_MOST_FRACTION ?a_gcd ?l_is_whole ?c_is_whole ?k_is_whole ?l_check_signed ?c_check_signed ?k_check_signed ?l_same_directed ?c_same_directed ?k_same_directed ?l__law_pool ?c__law_pool ?k__law_pool ?l__law_take ?c__law_take ?k__law_take ?l__law_pick ?c__law_pick ?k__law_pick ?l__law_is_integer ?c__law_is_integer ?k__law_is_integer ?l__law_same ?c__law_same ?k__law_same ?l__law_common ?c__law_common ?k__law_common ?l__law_put ?c__law_put ?k__law_put ?l__law_told ?c__law_told ?k__law_told ?l__law_product ?c__law_product ?k__law_product ?l__law_sum_of ?c__law_sum_of ?k__law_sum_of ?l__law_even ?c__law_even ?k__law_even ?l__law_pair ?c__law_pair ?k__law_pair ?l__law_fault ?c__law_fault ?k__law_fault ?l__law_due ?c__law_due ?k__law_due ?l__law_by_row ?c__law_by_row ?k__law_by_row ?l__law_signed ?c__law_signed ?k__law_signed ?l__law_so ?c__law_so ?k__law_so ?l__law_always ?c__law_always ?k__law_always ?l_law ?c_law ?k_law ?x_BadSignedFraction_0 ?x_BadSignedFraction_1 ?x_BadSignedFraction_2 ?x_BadSignedFraction_3 ?x_BadSignedFraction_4 ?x_BadSignedFraction_5 ?x_BadSignedFraction_6 ?x_BadSignedFraction_7 ?x_BadSignedFraction_8 ?x_BadSignedFraction_9 ?x_BadSignedFraction_10 ?pk_BadSignedFraction_KnotError ?pe_BadSignedFraction_BadSignedFraction ?pk_BadSignedFraction_TooLongRow ?pk_BadSignedFraction_TooGreatFraction ?z_abs ?z_all ?z_bool ?z_dict ?z_int ?z_isinstance ?z_len ?z_list ?z_range ?z_sorted ?z_str ?z_tuple
    (case a_is_whole => k_is)
    (case a_check_signed => k_is)
    (case a_same_directed => k_is)
    (case a__law_pool => k_is)
    (case a__law_take => k_is)
    (case a__law_pick => k_is)
    (case a__law_is_integer => k_is)
    (case a__law_same => k_is)
    (case a__law_common => k_is)
    (case a__law_put => k_is)
    (case a__law_told => k_is)
    (case a__law_product => k_is)
    (case a__law_sum_of => k_is)
    (case a__law_even => k_is)
    (case a__law_pair => k_is)
    (case a__law_fault => k_is)
    (case a__law_due => k_is)
    (case a__law_by_row => k_is)
    (case a__law_signed => k_is)
    (case a__law_so => k_is)
    (case a__law_always => k_is)
    (case a_law => k_is)
    (case a_KnotError => k_is)
    (case a_BadSignedFraction => k_is)
    (case a_TooLongRow => k_is)
    (case a_TooGreatFraction => k_is)
    (case a_MOST_FRACTION => k_is)
    (case a_gcd => k_is)
    (case l_is_whole => k_is)
    (case c_is_whole => k_is)
    (case k_is_whole => k_is)
    (case l_check_signed => k_is)
    (case c_check_signed => k_is)
    (case k_check_signed => k_is)
    (case l_same_directed => k_is)
    (case c_same_directed => k_is)
    (case k_same_directed => k_is)
    (case l__law_pool => k_is)
    (case c__law_pool => k_is)
    (case k__law_pool => k_is)
    (case l__law_take => k_is)
    (case c__law_take => k_is)
    (case k__law_take => k_is)
    (case l__law_pick => k_is)
    (case c__law_pick => k_is)
    (case k__law_pick => k_is)
    (case l__law_is_integer => k_is)
    (case c__law_is_integer => k_is)
    (case k__law_is_integer => k_is)
    (case l__law_same => k_is)
    (case c__law_same => k_is)
    (case k__law_same => k_is)
    (case l__law_common => k_is)
    (case c__law_common => k_is)
    (case k__law_common => k_is)
    (case l__law_put => k_is)
    (case c__law_put => k_is)
    (case k__law_put => k_is)
    (case l__law_told => k_is)
    (case c__law_told => k_is)
    (case k__law_told => k_is)
    (case l__law_product => k_is)
    (case c__law_product => k_is)
    (case k__law_product => k_is)
    (case l__law_sum_of => k_is)
    (case c__law_sum_of => k_is)
    (case k__law_sum_of => k_is)
    (case l__law_even => k_is)
    (case c__law_even => k_is)
    (case k__law_even => k_is)
    (case l__law_pair => k_is)
    (case c__law_pair => k_is)
    (case k__law_pair => k_is)
    (case l__law_fault => k_is)
    (case c__law_fault => k_is)
    (case k__law_fault => k_is)
    (case l__law_due => k_is)
    (case c__law_due => k_is)
    (case k__law_due => k_is)
    (case l__law_by_row => k_is)
    (case c__law_by_row => k_is)
    (case k__law_by_row => k_is)
    (case l__law_signed => k_is)
    (case c__law_signed => k_is)
    (case k__law_signed => k_is)
    (case l__law_so => k_is)
    (case c__law_so => k_is)
    (case k__law_so => k_is)
    (case l__law_always => k_is)
    (case c__law_always => k_is)
    (case k__law_always => k_is)
    (case l_law => k_is)
    (case c_law => k_is)
    (case k_law => k_is)
    (case x_BadSignedFraction_0 => k_exc)
    (case x_BadSignedFraction_1 => k_is)
    (case x_BadSignedFraction_2 => k_is)
    (case x_BadSignedFraction_3 => k_is)
    (case x_BadSignedFraction_4 => k_is)
    (case x_BadSignedFraction_5 => k_is)
    (case x_BadSignedFraction_6 => k_is)
    (case x_BadSignedFraction_7 => k_is)
    (case x_BadSignedFraction_8 => k_is)
    (case x_BadSignedFraction_9 => k_is)
    (case x_BadSignedFraction_10 => k_is)
    (case pk_BadSignedFraction_KnotError => kit_is)
    (case pe_BadSignedFraction_BadSignedFraction => k_is)
    (case pk_BadSignedFraction_TooLongRow => kit_is)
    (case pk_BadSignedFraction_TooGreatFraction => kit_is)
    (case z_abs => k_is)
    (case z_all => k_is)
    (case z_bool => k_is)
    (case z_dict => k_is)
    (case z_int => k_is)
    (case z_isinstance => k_is)
    (case z_len => k_is)
    (case z_list => k_is)
    (case z_range => k_is)
    (case z_sorted => k_is)
    (case z_str => k_is)
    (case z_tuple => k_is)
