import PyProof.Rows.All
import Wide.All
import OpenK.AllK
import Wide.FinOn
import PyProof.EqAt
import PyProof.EqKinds
import PyProof.TupleCall
import KE.KStateDown
import Lean
import HandS.ForMost
import HandS.TupAny
import HandS.IsInst
import HandS.Flow
import HandS.Style
import HandS.Zip
import HandS.Walk
import HandS.Sort
import HandS.Defaults
import HandS.Head0
import HandS.Head1
import HandS.Head2
import HandS.HeadEnd
import HandS.HeadHook1
import HandS.HeadHook2
import PySem.Challenge.RW_neverowing_k53_whole_labels_mirrored_and
set_option Elab.async false
set_option linter.all false
set_option maxRecDepth 100000
set_option maxHeartbeats 0
namespace Nd
open PySem L2

/-- chg: what may be written by whoever runs; inv: what holds of it at every moment; dep: what inv speaks of -/
structure Md where
  chg : Addr → Prop
  dep : Addr → Prop
  inv : Hp → Prop
  sub : ∀ a, chg a → dep a
  mono : ∀ H H', inv H → (∀ a o, dep a → H a = some o → H' a = some o) → inv H'
  has : ∀ H a, inv H → dep a → ∃ o, H a = some o
/-- nothing is written -/
def pureM : Md := ⟨fun _ => False, fun _ => False, fun _ => True, fun _ h => h, fun _ _ _ _ => trivial, fun _ _ _ h => h.elim⟩
theorem Md.same {m : Md} {H H' : Hp} (h : m.inv H) (s : Same H H') : m.inv H' := m.mono H H' h fun a o _ e => s a o e
theorem Md.fresh {m : Md} {H : Hp} {a : Addr} (h : m.inv H) (e : H a = none) : ¬ m.dep a := fun d => by
  obtain ⟨o, z⟩ := m.has H a h d
  rw [e] at z; cases z
theorem Md.upd {m : Md} {H : Hp} {a : Addr} {o : HO} (h : m.inv H) (e : ¬ m.dep a) : m.inv (L2.upd H a o) := m.mono H _ h fun b u d q => by
  rw [upd_ne]
  · exact q
  · intro z; subst z; exact e d
/-- one object more is held, as it is -/
def Md.hold (m : Md) (D : Addr) (o : HO) : Md where
  chg := fun a => m.chg a ∨ a = D
  dep := fun a => m.dep a ∨ a = D
  inv := fun H => m.inv H ∧ H D = some o
  sub := fun a h => h.imp (m.sub a) id
  mono := fun H H' h k => ⟨m.mono H H' h.1 fun a o d => k a o (.inl d), k D o (.inr rfl) h.2⟩
  has := fun H a h d => d.elim (fun z => m.has H a h.1 z) fun z => ⟨o, by rw [z]; exact h.2⟩
/-- G is the known part of H -/
structure Cn (m : Md) (G H : Hp) : Prop where
  gh : Same G H
  iv : m.inv H
  nm : ∀ a, m.chg a → G a = none
structure Go (m : Md) (G H G' H' : Hp) : Prop where
  gg : Same G G'
  gh : Same G' H'
  fr : ∀ a o, G' a = some o → G a = none → H a = none
  r : ∀ a o, ¬ m.chg a → H a = some o → H' a = some o
  iv : m.inv H'
section
variable {m : Md} {G H G' H' G1 H1 G2 H2 : Hp}
theorem Go.refl (c : Cn m G H) : Go m G H G H := ⟨Same.refl G, c.gh, fun _ _ h n => (by rw [h] at n; cases n), fun _ _ _ h => h, c.iv⟩
theorem Go.dom (t : Go m G H G' H') {a : Addr} (h : H' a = none) : H a = none := by
  cases q : H a with
  | none => rfl
  | some o =>
    by_cases e : m.chg a
    · obtain ⟨o', z⟩ := m.has H' a t.iv (m.sub a e)
      rw [h] at z; cases z
    · rw [t.r a o e q] at h; cases h
theorem Go.trans (t : Go m G H G1 H1) (u : Go m G1 H1 G2 H2) : Go m G H G2 H2 where
  gg := t.gg.trans u.gg
  gh := u.gh
  fr := fun a o h n => by
    cases q : G1 a with
    | none => exact t.dom (u.fr a o h q)
    | some o' => exact t.fr a o' q n
  r := fun a o e h => u.r a o e (t.r a o e h)
  iv := u.iv
theorem Go.cn (t : Go m G H G' H') (c : Cn m G H) : Cn m G' H' where
  gh := t.gh
  iv := t.iv
  nm := fun a e => by
    cases q : G' a with
    | none => rfl
    | some o =>
      have h := t.fr a o q (c.nm a e)
      obtain ⟨o', z⟩ := m.has H a c.iv (m.sub a e)
      rw [h] at z; cases z
/-- a new object, known from now on -/
theorem Go.new (c : Cn m G H) {p : Addr} {o : HO} (hp : H p = none) : Go m G H (upd G p o) (upd H p o) := by
  have s : Same H (upd H p o) := fun a u e => by rw [upd_ne (ne_of_none e hp)]; exact e
  refine ⟨fun a u e => ?_, fun a u e => ?_, fun a u e n => ?_, fun a u _ e => s a u e, Md.same c.iv s⟩
  · rw [upd_ne (ne_of_none (c.gh a u e) hp)]; exact e
  · by_cases q : a = p
    · subst q; rw [upd_same] at e ⊢; exact e
    · rw [upd_ne q] at e ⊢; exact c.gh a u e
  · by_cases q : a = p
    · subst q; exact hp
    · rw [upd_ne q] at e; rw [e] at n; cases n
/-- back from a held object -/
theorem Go.unhold {D : Addr} {o : HO} (t : Go (m.hold D o) G H G' H') (c : H D = some o) : Go m G H G' H' where
  gg := t.gg
  gh := t.gh
  fr := t.fr
  r := fun a u e h => by
    by_cases q : a = D
    · subst q
      rw [c] at h; cases h
      exact t.iv.2
    · exact t.r a u (fun z => z.elim e q) h
  iv := t.iv.1
/-- nothing but new things -/
theorem Go.same (c : Cn m G H) (s : Same H H') : Go m G H G H' := ⟨Same.refl G, c.gh.trans s, fun _ _ h n => (by rw [h] at n; cases n), fun a o _ h => s a o h, Md.same c.iv s⟩
end

structure Pd where
  φ : V → Hp → Prop
  mono : ∀ v G G', φ v G → Same G G' → φ v G'
end Nd
namespace L2
open PySem
section
variable {K : PySem.W.Frag}
theorem SqL.mono {G G' : Hp} {a : Addr} {xs : List V} (h : SqL K G a xs) (s : Same G G') : SqL K G' a xs := s.seq h
theorem SqT.mono {G G' : Hp} {a : Addr} {xs : List V} (h : SqT K G a xs) (s : Same G G') : SqT K G' a xs := by
  rcases h with (h | ⟨o, h⟩) | h
  · exact .inl (.inl (s _ _ h))
  · exact .inl (.inr ⟨o, s _ _ h⟩)
  · exact .inr h
mutual
theorem Dp.mono {G G' : Hp} (s : Same G G') : ∀ {v : V} {d : PyData}, Dp K G v d → Dp K G' v d
  | _, _, .non => .non
  | _, _, .bl b => .bl b
  | _, _, .int i => .int i
  | _, _, .str x => .str x
  | _, _, .lst h a => .lst (SqL.mono h s) (DpAll.mono s a)
  | _, _, .tup h a => .tup (SqT.mono h s) (DpAll.mono s a)
theorem DpAll.mono {G G' : Hp} (s : Same G G') : ∀ {vs : List V} {ds : List PyData}, DpAll K G vs ds → DpAll K G' vs ds
  | _, _, .nil => .nil
  | _, _, .cons h t => .cons (Dp.mono s h) (DpAll.mono s t)
end
theorem DpAll.length {G : Hp} : ∀ {vs : List V} {ds : List PyData}, DpAll K G vs ds → vs.length = ds.length
  | _, _, .nil => rfl
  | _, _, .cons _ t => congrArg (· + 1) (DpAll.length t)
theorem DpAll.get {G : Hp} : ∀ {vs : List V} {ds : List PyData} {i : Nat} {d : PyData}, DpAll K G vs ds → ds[i]? = some d → ∃ v, vs[i]? = some v ∧ Dp K G v d
  | _, _, _, _, .nil, e => by simp at e
  | _, _, 0, _, .cons h _, e => by simp at e; subst e; exact ⟨_, rfl, h⟩
  | _, _, i + 1, d, .cons _ t, e => by
    obtain ⟨v, h1, h2⟩ := DpAll.get (i := i) (d := d) t (by simpa using e)
    exact ⟨v, by simpa using h1, h2⟩
theorem DpAll.getV {G : Hp} : ∀ {vs : List V} {ds : List PyData} {i : Nat} {v : V}, DpAll K G vs ds → vs[i]? = some v → ∃ d, ds[i]? = some d ∧ Dp K G v d
  | _, _, _, _, .nil, e => by simp at e
  | _, _, 0, _, .cons h _, e => by simp at e; subst e; exact ⟨_, rfl, h⟩
  | _, _, i + 1, v, .cons _ t, e => by
    obtain ⟨d, h1, h2⟩ := DpAll.getV (i := i) (v := v) t (by simpa using e)
    exact ⟨d, by simpa using h1, h2⟩
theorem DpAll.append {G : Hp} : ∀ {vs ws : List V} {ds es : List PyData}, DpAll K G vs ds → DpAll K G ws es → DpAll K G (vs ++ ws) (ds ++ es)
  | _, _, _, _, .nil, h => h
  | _, _, _, _, .cons a t, h => .cons a (DpAll.append t h)
theorem DpAll.take {G : Hp} : ∀ {vs : List V} {ds : List PyData} (n : Nat), DpAll K G vs ds → DpAll K G (vs.take n) (ds.take n)
  | _, _, 0, _ => .nil
  | _, _, _ + 1, .nil => .nil
  | _, _, n + 1, .cons h t => .cons h (DpAll.take n t)
theorem DpAll.drop {G : Hp} : ∀ {vs : List V} {ds : List PyData} (n : Nat), DpAll K G vs ds → DpAll K G (vs.drop n) (ds.drop n)
  | _, _, 0, h => h
  | _, _, _ + 1, .nil => .nil
  | _, _, n + 1, .cons _ t => DpAll.drop n t
theorem DpAll.ints {G : Hp} : ∀ {vs : List V} {ns : List Int}, DpAll K G vs (ns.map PyData.int) → vs = ns.map V.int
  | _, [], .nil => rfl
  | _, _ :: ns, .cons h t => by
    cases h
    rw [DpAll.ints t]; rfl
theorem DpAll.ofInts {G : Hp} : ∀ (ns : List Int), DpAll K G (ns.map V.int) (ns.map PyData.int)
  | [] => .nil
  | n :: ns => .cons (.int n) (DpAll.ofInts ns)
end
end L2
namespace Nd
open PySem L2
section
variable (K : PySem.W.Frag)
/-- data -/
def dd (d : PyData) : Pd := ⟨fun v G => Dp K G v d, fun _ _ _ h s => Dp.mono s h⟩
/-- this very value -/
def vv (v : V) : Pd := ⟨fun x _ => x = v, fun _ _ _ h _ => h⟩
abbrev di (i : Int) : Pd := dd K (.int i)
abbrev db (b : Bool) : Pd := dd K (.bool b)
end
/-- the slots described -/
def Sl (G : Hp) (σ : L2.St) (δ : List (Option Pd)) : Prop := σ.length = δ.length ∧ ∀ (i : Nat) (P : Pd), δ[i]? = some (some P) → ∃ v, σ[i]? = some (some v) ∧ P.φ v G
section
variable {G G' : Hp} {σ : L2.St} {δ : List (Option Pd)}
theorem Sl.mono (h : Sl G σ δ) (s : Same G G') : Sl G' σ δ := ⟨h.1, fun i P e => let ⟨v, a, b⟩ := h.2 i P e; ⟨v, a, P.mono _ _ _ b s⟩⟩
theorem Sl.set (h : Sl G σ δ) {i : Nat} {v : V} {P : Pd} (p : P.φ v G) : Sl G (σ.set i (some v)) (δ.set i (some P)) := by
  refine ⟨by rw [List.length_set, List.length_set]; exact h.1, fun j R e => ?_⟩
  by_cases hj : i = j
  · subst hj
    by_cases hi : i < δ.length
    · rw [List.getElem?_set_self hi] at e
      cases e
      exact ⟨v, List.getElem?_set_self (by rw [h.1]; exact hi), p⟩
    · rw [List.getElem?_eq_none (by rw [List.length_set]; omega)] at e; cases e
  · rw [List.getElem?_set_ne hj] at e
    obtain ⟨w, a, b⟩ := h.2 j R e
    exact ⟨w, by rw [List.getElem?_set_ne hj]; exact a, b⟩
/-- forgetting -/
theorem Sl.weak {δ' : List (Option Pd)} (h : Sl G σ δ) (hl : δ'.length = δ.length) (w : ∀ (i : Nat) P, δ'[i]? = some (some P) → δ[i]? = some (some P)) : Sl G σ δ' := ⟨h.1.trans hl.symm, fun i P e => h.2 i P (w i P e)⟩
end

def EvD (m : Md) (te : TE) (δ : List (Option Pd)) (P : Pd) : Prop :=
  ∀ (σ : L2.St) (G H : Hp), Sl G σ δ → Cn m G H → ∀ Q : VK, (∀ v G' H', Go m G H G' H' → P.φ v G' → Q v H') → te σ H Q
def EvB (m : Md) (tt : TT) (δ : List (Option Pd)) (b : Bool) : Prop :=
  ∀ (σ : L2.St) (G H : Hp), Sl G σ δ → Cn m G H → ∀ Q : Bool → Hp → Prop, (∀ G' H', Go m G H G' H' → Q b H') → tt σ H Q
/-- arguments -/
inductive All2 (G : Hp) : List V → List Pd → Prop
  | nil : All2 G [] []
  | cons {v : V} {vs : List V} {P : Pd} {Ps : List Pd} : P.φ v G → All2 G vs Ps → All2 G (v :: vs) (P :: Ps)
theorem All2.mono {G G' : Hp} (s : Same G G') : ∀ {vs : List V} {Ps : List Pd}, All2 G vs Ps → All2 G' vs Ps
  | _, _, .nil => .nil
  | _, P :: _, .cons h t => .cons (P.mono _ _ _ h s) (All2.mono s t)
theorem All2.length {G : Hp} : ∀ {vs : List V} {Ps : List Pd}, All2 G vs Ps → vs.length = Ps.length
  | _, _, .nil => rfl
  | _, _, .cons _ t => congrArg (· + 1) (All2.length t)
def EvA (m : Md) (ta : TA) (δ : List (Option Pd)) (Ps : List Pd) : Prop :=
  ∀ (σ : L2.St) (G H : Hp), Sl G σ δ → Cn m G H → ∀ Q : List V → Hp → Prop, (∀ vs G' H', Go m G H G' H' → All2 G' vs Ps → Q vs H') → ta σ H Q
section
variable {K : PySem.W.Frag} {m : Md} {δ : List (Option Pd)} {ta tb te : TE} {t u : TT} {P R S : Pd}
theorem ev_var {i : Nat} (h : δ[i]? = some (some P)) : EvD m (tVar i) δ P := fun σ G H s c Q q =>
  let ⟨v, a, b⟩ := s.2 i P h
  ⟨v, a, q v G H (Go.refl c) b⟩
theorem ev_c {v : V} (h : ∀ G, P.φ v G) : EvD m (tC v) δ P := fun σ G H s c Q q => q v G H (Go.refl c) (h G)
theorem ev_int {i : Int} : EvD m (tC (.int i)) δ (di K i) := ev_c fun _ => .int i
theorem ev_bl {b : Bool} : EvD m (tC (.bl b)) δ (db K b) := ev_c fun _ => .bl b
theorem ev_str {x : Str} : EvD m (tC (.str x)) δ (dd K (.str x)) := ev_c fun _ => .str x
theorem ev_non : EvD m (tC .non) δ (dd K .none) := ev_c fun _ => .non
theorem ev_val {v : V} : EvD m (tC v) δ (vv v) := ev_c fun _ => rfl
theorem EvD.to (h : EvD m te δ P) (e : ∀ v G, P.φ v G → R.φ v G) : EvD m te δ R := fun σ G H s c Q q => h σ G H s c Q fun v G' H' t p => q v G' H' t (e _ _ p)
theorem EvB.to {b b' : Bool} (h : EvB m t δ b) (e : b = b') : EvB m t δ b' := e ▸ h
/-- a two-place operation on values -/
def OpD (m : Md) (r : R2) (P R S : Pd) : Prop := ∀ x y G H, Cn m G H → P.φ x G → R.φ y G → ∀ Q : VK, (∀ v G' H', Go m G H G' H' → S.φ v G' → Q v H') → r x y H Q
theorem ev_op {r : R2} (ha : EvD m ta δ P) (hb : EvD m tb δ R) (hr : OpD m r P R S) : EvD m (tOp r ta tb) δ S := fun σ G H s c Q q =>
  ha σ G H s c _ fun x G1 H1 t1 p1 => hb σ G1 H1 (s.mono t1.gg) (t1.cn c) _ fun y G2 H2 t2 p2 =>
    hr x y G2 H2 (t2.cn (t1.cn c)) (P.mono _ _ _ p1 t2.gg) p2 Q fun v G3 H3 t3 p3 => q v G3 H3 ((t1.trans t2).trans t3) p3
theorem od_I0 {g : Int → Int → V} {i j : Int} (h : ∀ G, S.φ (g i j) G) : OpD m (rI0 g) (di K i) (di K j) S := fun x y G H c px py Q q => by
  cases px
  cases py
  exact ⟨i, j, rfl, rfl, q _ G H (Go.refl c) (h G)⟩
theorem od_I {C : Int → Int → Prop} {g : Int → Int → V} {i j : Int} (hc : C i j) (h : ∀ G, S.φ (g i j) G) : OpD m (rI C g) (di K i) (di K j) S := fun x y G H c px py Q q => by
  cases px
  cases py
  exact ⟨i, j, rfl, rfl, hc, q _ G H (Go.refl c) (h G)⟩
end
end Nd

namespace Nd
open PySem L2
section
variable {K : PySem.W.Frag} {m : Md} {δ : List (Option Pd)} {ta tb tc te : TE} {t u : TT} {P R S T : Pd}
theorem ev_add {i j : Int} (ha : EvD m ta δ (di K i)) (hb : EvD m tb δ (di K j)) : EvD m (tOp (rI0 fun i j => .int (i + j)) ta tb) δ (di K (i + j)) := ev_op ha hb (od_I0 fun _ => .int _)
theorem ev_sub {i j : Int} (ha : EvD m ta δ (di K i)) (hb : EvD m tb δ (di K j)) : EvD m (tOp (rI0 fun i j => .int (i - j)) ta tb) δ (di K (i - j)) := ev_op ha hb (od_I0 fun _ => .int _)
theorem ev_mul {i j : Int} (ha : EvD m ta δ (di K i)) (hb : EvD m tb δ (di K j)) (hc : CMul i j) : EvD m (tOp (rI CMul fun i j => .int (i * j)) ta tb) δ (di K (i * j)) := ev_op ha hb (od_I hc fun _ => .int _)
theorem ev_mod {i j : Int} (ha : EvD m ta δ (di K i)) (hb : EvD m tb δ (di K j)) (hc : 0 < j) : EvD m (tOp (rI (fun _ j => 0 < j) fun i j => .int (i % j)) ta tb) δ (di K (i % j)) := ev_op ha hb (od_I hc fun _ => .int _)
theorem ev_fdiv {i j : Int} (ha : EvD m ta δ (di K i)) (hb : EvD m tb δ (di K j)) (hc : CDiv i j) : EvD m (tOp (rI CDiv fun i j => .int (i / j)) ta tb) δ (di K (i / j)) := ev_op ha hb (od_I hc fun _ => .int _)
theorem ev_lt {i j : Int} (ha : EvD m ta δ (di K i)) (hb : EvD m tb δ (di K j)) : EvD m (tOp (rI0 fun i j => .bl (decide (i < j))) ta tb) δ (db K (decide (i < j))) := ev_op ha hb (od_I0 fun _ => .bl _)
theorem ev_le {i j : Int} (ha : EvD m ta δ (di K i)) (hb : EvD m tb δ (di K j)) : EvD m (tOp (rI0 fun i j => .bl (decide (i ≤ j))) ta tb) δ (db K (decide (i ≤ j))) := ev_op ha hb (od_I0 fun _ => .bl _)
theorem ev_gt {i j : Int} (ha : EvD m ta δ (di K i)) (hb : EvD m tb δ (di K j)) : EvD m (tOp (rI0 fun i j => .bl (decide (j < i))) ta tb) δ (db K (decide (j < i))) := ev_op ha hb (od_I0 fun _ => .bl _)
theorem ev_ge {i j : Int} (ha : EvD m ta δ (di K i)) (hb : EvD m tb δ (di K j)) : EvD m (tOp (rI0 fun i j => .bl (decide (j ≤ i))) ta tb) δ (db K (decide (j ≤ i))) := ev_op ha hb (od_I0 fun _ => .bl _)
theorem dec_int (i j : Int) : decide (V.int i = V.int j) = decide (i = j) := by
  by_cases h : i = j
  · subst h; simp
  · rw [decide_eq_false h, decide_eq_false]
    intro e; cases e; exact h rfl
theorem ev_eqI {i j : Int} (ha : EvD m ta δ (di K i)) (hb : EvD m tb δ (di K j)) : EvD m (tOp rEq ta tb) δ (db K (decide (i = j))) := ev_op ha hb fun x y G H c px py Q q => by
  cases px; cases py
  exact ⟨rfl, q _ G H (Go.refl c) (by rw [dec_int]; exact .bl _)⟩
theorem ev_neI {i j : Int} (ha : EvD m ta δ (di K i)) (hb : EvD m tb δ (di K j)) : EvD m (tOp rNe ta tb) δ (db K (!decide (i = j))) := ev_op ha hb fun x y G H c px py Q q => by
  cases px; cases py
  exact ⟨rfl, q _ G H (Go.refl c) (by rw [dec_int]; exact .bl _)⟩
theorem dec_bl (i j : Bool) : decide (V.bl i = V.bl j) = decide (i = j) := by
  by_cases h : i = j
  · subst h; simp
  · rw [decide_eq_false h, decide_eq_false]
    intro e; cases e; exact h rfl
theorem ev_eqB {i j : Bool} (ha : EvD m ta δ (db K i)) (hb : EvD m tb δ (db K j)) : EvD m (tOp rEq ta tb) δ (db K (decide (i = j))) := ev_op ha hb fun x y G H c px py Q q => by
  cases px; cases py
  exact ⟨rfl, q _ G H (Go.refl c) (by rw [dec_bl]; exact .bl _)⟩
theorem ev_neB {i j : Bool} (ha : EvD m ta δ (db K i)) (hb : EvD m tb δ (db K j)) : EvD m (tOp rNe ta tb) δ (db K (!decide (i = j))) := ev_op ha hb fun x y G H c px py Q q => by
  cases px; cases py
  exact ⟨rfl, q _ G H (Go.refl c) (by rw [dec_bl]; exact .bl _)⟩
theorem ev_neg {i : Int} (ha : EvD m ta δ (di K i)) : EvD m (tUn (rU fun i => .int (-i)) ta) δ (di K (-i)) := fun σ G H s c Q q => ha σ G H s c _ fun x G1 H1 t p => by
  cases p
  exact ⟨i, rfl, q _ G1 H1 t (.int _)⟩
/-- a chain of two comparisons of ints -/
theorem ev_chain {f g : Int → Int → Bool} {i j k : Int} (ha : EvD m ta δ (di K i)) (hb : EvD m tb δ (di K j)) (hc : EvD m tc δ (di K k)) :
    EvD m (tChain (rI0 fun i j => .bl (f i j)) (rI0 fun i j => .bl (g i j)) ta tb tc) δ (db K (f i j && g j k)) := fun σ G H s c Q q =>
  ha σ G H s c _ fun x G1 H1 t1 p1 => hb σ G1 H1 (s.mono t1.gg) (t1.cn c) _ fun y G2 H2 t2 p2 => by
    cases p1; cases p2
    refine ⟨i, j, rfl, rfl, f i j, rfl, ?_⟩
    cases e : f i j with
    | false =>
      rw [if_neg Bool.false_ne_true]
      exact q _ G2 H2 (t1.trans t2) (by show Dp K _ _ (.bool (f i j && g j k)); rw [e, Bool.false_and]; exact .bl _)
    | true =>
      rw [if_pos rfl]
      refine hc σ G2 H2 ((s.mono t1.gg).mono t2.gg) (t2.cn (t1.cn c)) _ fun z G3 H3 t3 p3 => ?_
      cases p3
      exact ⟨j, k, rfl, rfl, q _ G3 H3 ((t1.trans t2).trans t3) (by show Dp K _ _ (.bool (f i j && g j k)); rw [e, Bool.true_and]; exact .bl _)⟩
theorem eb_test {b : Bool} (h : EvD m te δ (db K b)) : EvB m (tTest te) δ b := fun σ G H s c Q q => h σ G H s c _ fun v G1 H1 t p => by
  cases p
  exact ⟨b, rfl, q G1 H1 t⟩
theorem eb_tB {b : Bool} (h : EvD m te δ (db K b)) : EvB m (tB te) δ b := fun σ G H s c Q q => h σ G H s c _ fun v G1 H1 t p => by
  cases p
  exact ⟨b, rfl, q G1 H1 t⟩
theorem eb_not {b : Bool} (h : EvB m t δ b) : EvB m (tNot t) δ (!b) := fun σ G H s c Q q => h σ G H s c _ fun G1 H1 t1 => q G1 H1 t1
theorem eb_and {a b : Bool} (h1 : EvB m t δ a) (h2 : a = true → EvB m u δ b) : EvB m (tAnd t u) δ (a && b) := fun σ G H s c Q q => h1 σ G H s c _ fun G1 H1 t1 => by
  cases a with
  | true => exact h2 rfl σ G1 H1 (s.mono t1.gg) (t1.cn c) Q fun G2 H2 t2 => q G2 H2 (t1.trans t2)
  | false => exact q G1 H1 t1
theorem eb_or {a b : Bool} (h1 : EvB m t δ a) (h2 : a = false → EvB m u δ b) : EvB m (tOr t u) δ (a || b) := fun σ G H s c Q q => h1 σ G H s c _ fun G1 H1 t1 => by
  cases a with
  | true => exact q G1 H1 t1
  | false => exact h2 rfl σ G1 H1 (s.mono t1.gg) (t1.cn c) Q fun G2 H2 t2 => q G2 H2 (t1.trans t2)
theorem eb_yes : EvB m tYes δ true := fun σ G H s c Q q => q G H (Go.refl c)
theorem ev_andV {a b : Bool} (h1 : EvD m ta δ (db K a)) (h2 : a = true → EvD m tb δ (db K b)) : EvD m (tAndV ta tb) δ (db K (a && b)) := fun σ G H s c Q q => h1 σ G H s c _ fun v G1 H1 t1 p => by
  cases p
  refine ⟨a, rfl, ?_⟩
  cases a with
  | true => exact h2 rfl σ G1 H1 (s.mono t1.gg) (t1.cn c) Q fun v G2 H2 t2 p2 => q v G2 H2 (t1.trans t2) p2
  | false => exact q _ G1 H1 t1 (.bl _)
theorem ev_orV {a b : Bool} (h1 : EvD m ta δ (db K a)) (h2 : a = false → EvD m tb δ (db K b)) : EvD m (tOrV ta tb) δ (db K (a || b)) := fun σ G H s c Q q => h1 σ G H s c _ fun v G1 H1 t1 p => by
  cases p
  refine ⟨a, rfl, ?_⟩
  cases a with
  | true => exact q _ G1 H1 t1 (.bl _)
  | false => exact h2 rfl σ G1 H1 (s.mono t1.gg) (t1.cn c) Q fun v G2 H2 t2 p2 => q v G2 H2 (t1.trans t2) p2
theorem ev_notV {a : Bool} (h1 : EvD m ta δ (db K a)) : EvD m (tNotV ta) δ (db K (!a)) := fun σ G H s c Q q => h1 σ G H s c _ fun v G1 H1 t1 p => by
  cases p
  exact ⟨a, rfl, q _ G1 H1 t1 (.bl _)⟩
theorem ev_if {b : Bool} (h : EvB m t δ b) (h1 : b = true → EvD m ta δ P) (h2 : b = false → EvD m tb δ P) : EvD m (tIf t ta tb) δ P := fun σ G H s c Q q => h σ G H s c _ fun G1 H1 t1 => by
  cases b with
  | true => exact h1 rfl σ G1 H1 (s.mono t1.gg) (t1.cn c) Q fun v G2 H2 t2 p2 => q v G2 H2 (t1.trans t2) p2
  | false => exact h2 rfl σ G1 H1 (s.mono t1.gg) (t1.cn c) Q fun v G2 H2 t2 p2 => q v G2 H2 (t1.trans t2) p2
theorem ea_nil : EvA m tNil δ [] := fun σ G H s c Q q => q [] G H (Go.refl c) .nil
theorem ea_cons {tr : TA} {Ps : List Pd} (h : EvD m te δ P) (hr : EvA m tr δ Ps) : EvA m (tCons te tr) δ (P :: Ps) := fun σ G H s c Q q =>
  h σ G H s c _ fun v G1 H1 t1 p1 => hr σ G1 H1 (s.mono t1.gg) (t1.cn c) _ fun vs G2 H2 t2 p2 => q (v :: vs) G2 H2 (t1.trans t2) (.cons (P.mono _ _ _ p1 t2.gg) p2)
/-- a call by values -/
def CbD (m : Md) (r : List V → Hp → VK → Prop) (Ps : List Pd) (S : Pd) : Prop := ∀ vs G H, Cn m G H → All2 G vs Ps → ∀ Q : VK, (∀ v G' H', Go m G H G' H' → S.φ v G' → Q v H') → r vs H Q
theorem ev_cb {r : List V → Hp → VK → Prop} {ta : TA} {Ps : List Pd} (h : EvA m ta δ Ps) (hr : CbD m r Ps S) : EvD m (tCB r ta) δ S := fun σ G H s c Q q =>
  h σ G H s c _ fun vs G1 H1 t1 p1 => hr vs G1 H1 (t1.cn c) p1 Q fun v G2 H2 t2 p2 => q v G2 H2 (t1.trans t2) p2
/-- how a call ends -/
inductive Oc where
  | ret (S : Pd)
  | exc (C : Addr) (P : Pd)
def Oc.to (m : Md) (G H : Hp) (Q : VK) (E : XK) : Oc → Prop
  | .ret S => ∀ v G' H', Go m G H G' H' → S.φ v G' → Q v H'
  | .exc C P => ∀ d v G' H', Go m G H G' H' → H' d = some (.xd [(("what" : Str), v)]) → P.φ v G' → E (.ref C) (some d) H'
/-- a def's promise by descriptions: F tells, in every mode, which arguments give which end -/
def spF (F : Md → List Pd → Oc → Prop) : Sp := fun vs H Q E => ∃ (m : Md) (G : Hp) (Ps : List Pd) (O : Oc), F m Ps O ∧ Cn m G H ∧ All2 G vs Ps ∧ O.to m G H Q E
theorem ev_call {F : Md → List Pd → Oc → Prop} {E : XK} {ta : TA} {Ps : List Pd} (h : EvA m ta δ Ps) (hf : F m Ps (.ret S)) : EvD m (tCall (spF F) [] E ta) δ S := fun σ G H s c Q q =>
  h σ G H s c _ fun vs G1 H1 t1 p1 => by
    rw [List.append_nil]
    exact ⟨m, G1, Ps, .ret S, hf, t1.cn c, p1, fun v G2 H2 t2 p2 => q v G2 H2 (t1.trans t2) p2⟩
def dds (ds : List PyData) : List Pd := ds.map (dd K)
theorem all2_dp {G : Hp} : ∀ {vs : List V} {ds : List PyData}, All2 G vs (ds.map (dd K)) → DpAll K G vs ds
  | _, [], .nil => .nil
  | _, _ :: _, .cons h t => .cons h (all2_dp t)
theorem dp_all2 {G : Hp} : ∀ {vs : List V} {ds : List PyData}, DpAll K G vs ds → All2 G vs (ds.map (dd K))
  | _, [], .nil => .nil
  | _, _ :: _, .cons h t => .cons h (dp_all2 t)
theorem ev_tup {ta : TA} {ds : List PyData} (h : EvA m ta δ (ds.map (dd K))) (hl : ds.length ≤ 100000) : EvD m (tTup ta) δ (dd K (.tuple ds)) := fun σ G H s c Q q =>
  h σ G H s c _ fun vs G1 H1 t1 p1 => by
    have d1 := all2_dp p1
    refine ⟨Nat.le_trans (by rw [d1.length]; exact hl) (by decide), fun p hp => ?_⟩
    have t2 := Go.new (o := .tup vs) (t1.cn c) hp
    exact q _ _ _ (t1.trans t2) (.tup (.inl (.inl upd_same)) (DpAll.mono t2.gg d1))
theorem ev_lst {ta : TA} {ds : List PyData} (h : EvA m ta δ (ds.map (dd K))) (hl : ds.length ≤ 100000) : EvD m (tLst ta) δ (dd K (.list ds)) := fun σ G H s c Q q =>
  h σ G H s c _ fun vs G1 H1 t1 p1 => by
    have d1 := all2_dp p1
    refine ⟨Nat.le_trans (by rw [d1.length]; exact hl) (by decide), fun p hp => ?_⟩
    have t2 := Go.new (o := .lst vs) (t1.cn c) hp
    exact q _ _ _ (t1.trans t2) (.lst (.inl (.inl upd_same)) (DpAll.mono t2.gg d1))
theorem dpa_nil_iff {G : Hp} {vs : List V} {ds : List PyData} (h : DpAll K G vs ds) : vs = [] ↔ ds = [] := by
  have := h.length
  cases vs <;> cases ds <;> simp_all
theorem ev_catT {xs ys : List PyData} (ha : EvD m ta δ (dd K (.tuple xs))) (hb : EvD m tb δ (dd K (.tuple ys))) (hl : xs.length + ys.length ≤ 100000) :
    EvD m (tOp (rCatA K) ta tb) δ (dd K (.tuple (xs ++ ys))) := ev_op ha hb fun x y G H c px py Q q => by
  cases px with
  | @tup a vs _ h1 d1 =>
    cases py with
    | @tup b ws _ h2 d2 =>
      refine ⟨a, b, vs, ws, rfl, rfl, SqT.mono h1 c.gh, SqT.mono h2 c.gh, Nat.le_trans (by rw [d1.length, d2.length]; exact hl) (by decide), fun e => ?_, fun e e2 => ?_, fun e e2 p hp => ?_⟩
      · subst e
        cases d1
        exact q _ G H (Go.refl c) (.tup h2 d2)
      · subst e2
        cases d2
        exact q _ G H (Go.refl c) (by rw [List.append_nil]; exact .tup h1 d1)
      · have t2 := Go.new (o := .tup (vs ++ ws)) c hp
        exact q _ _ _ t2 (.tup (.inl (.inl upd_same)) (DpAll.mono t2.gg (d1.append d2)))
/-- a list's cut -/
def ndCut {α : Type} (xs : List α) (lo hi : Option Int) : List α := (xs.drop (HT.sIx xs.length 0 lo)).take (HT.sIx xs.length xs.length hi - HT.sIx xs.length 0 lo)
theorem dpa_cut {G : Hp} {vs : List V} {ds : List PyData} {lo hi : Option Int} (h : DpAll K G vs ds) : DpAll K G (cutV vs lo hi) (ndCut ds lo hi) := by
  unfold cutV ndCut
  rw [h.length]
  exact (h.drop _).take _
def EvO (m : Md) (to : TO) (δ : List (Option Pd)) (o : Option Int) : Prop :=
  ∀ (σ : L2.St) (G H : Hp), Sl G σ δ → Cn m G H → ∀ Q : Option Int → Hp → Prop, (∀ G' H', Go m G H G' H' → Q o H') → to σ H Q
theorem eo_none : EvO m tNoPart δ none := fun σ G H s c Q q => q G H (Go.refl c)
theorem eo_some {i : Int} (h : EvD m te δ (di K i)) : EvO m (tPart te) δ (some i) := fun σ G H s c Q q => h σ G H s c _ fun v G1 H1 t p => by
  cases p
  exact ⟨i, rfl, q G1 H1 t⟩
theorem ev_slT {tl th : TO} {xs : List PyData} {lo hi : Option Int} (h : EvD m te δ (dd K (.tuple xs))) (h1 : EvO m tl δ lo) (h2 : EvO m th δ hi) : EvD m (tSl (rSlA K) te tl th) δ (dd K (.tuple (ndCut xs lo hi))) := fun σ G H s c Q q =>
  h σ G H s c _ fun x G1 H1 t1 p1 => h1 σ G1 H1 (s.mono t1.gg) (t1.cn c) _ fun G2 H2 t2 => h2 σ G2 H2 ((s.mono t1.gg).mono t2.gg) (t2.cn (t1.cn c)) _ fun G3 H3 t3 => by
    have p3 := Dp.mono t3.gg (Dp.mono t2.gg p1)
    have c3 := t3.cn (t2.cn (t1.cn c))
    have t := (t1.trans t2).trans t3
    cases p3 with
    | @tup a vs _ e d =>
      refine ⟨a, vs, rfl, SqT.mono e c3.gh, fun w => ?_, fun w p hp => ?_⟩
      · refine q _ G3 H3 t (.tup e ?_)
        have z := dpa_cut (lo := lo) (hi := hi) d
        have ev : cutV vs lo hi = vs := by
          unfold cutV
          rw [w.1, w.2]
          simp
        rw [ev] at z
        exact z
      · have t4 := Go.new (o := .tup (cutV vs lo hi)) c3 hp
        exact q _ _ _ (t.trans t4) (.tup (.inl (.inl upd_same)) (DpAll.mono t4.gg (dpa_cut d)))
theorem ev_slL {tl th : TO} {xs : List PyData} {lo hi : Option Int} (h : EvD m te δ (dd K (.list xs))) (h1 : EvO m tl δ lo) (h2 : EvO m th δ hi) : EvD m (tSl (rSlL K) te tl th) δ (dd K (.list (ndCut xs lo hi))) := fun σ G H s c Q q =>
  h σ G H s c _ fun x G1 H1 t1 p1 => h1 σ G1 H1 (s.mono t1.gg) (t1.cn c) _ fun G2 H2 t2 => h2 σ G2 H2 ((s.mono t1.gg).mono t2.gg) (t2.cn (t1.cn c)) _ fun G3 H3 t3 => by
    have p3 := Dp.mono t3.gg (Dp.mono t2.gg p1)
    have c3 := t3.cn (t2.cn (t1.cn c))
    have t := (t1.trans t2).trans t3
    cases p3 with
    | @lst a vs _ e d =>
      refine ⟨a, vs, rfl, SqL.mono e c3.gh, fun p hp => ?_⟩
      have t4 := Go.new (o := .lst (cutV vs lo hi)) c3 hp
      exact q _ _ _ (t.trans t4) (.lst (.inl (.inl upd_same)) (DpAll.mono t4.gg (dpa_cut d)))
theorem ev_revL {xs : List PyData} (h : EvD m te δ (dd K (.list xs))) : EvD m (tRevL K te) δ (dd K (.list xs.reverse)) := fun σ G H s c Q q =>
  h σ G H s c _ fun x G1 H1 t1 p1 => by
    cases p1 with
    | @lst a vs _ e d =>
      refine ⟨a, vs, rfl, SqL.mono e (t1.cn c).gh, fun p hp => ?_⟩
      have t4 := Go.new (o := .lst vs.reverse) (t1.cn c) hp
      have dr : ∀ {vs : List V} {ds : List PyData}, DpAll K G1 vs ds → DpAll K G1 vs.reverse ds.reverse := by
        intro vs ds h
        induction vs generalizing ds with
        | nil => cases h; exact .nil
        | cons v vs ih =>
          cases h with
          | cons h1 h2 => rw [List.reverse_cons, List.reverse_cons]; exact (ih h2).append (.cons h1 .nil)
      exact q _ _ _ (t1.trans t4) (.lst (.inl (.inl upd_same)) (DpAll.mono t4.gg (dr d)))
theorem dpa_atI {G : Hp} {vs : List V} {ds : List PyData} {i : Int} {d : PyData} (h : DpAll K G vs ds) (e : L2.atI ds i = some d) : ∃ v, L2.atI vs i = some v ∧ Dp K G v d := by
  unfold L2.atI at e ⊢
  rw [h.length]
  cases q : ixN ds.length i with
  | none => rw [q] at e; cases e
  | some j =>
    rw [q] at e
    exact h.get (i := j) e
theorem ev_ixL {xs : List PyData} {i : Int} {d : PyData} (ha : EvD m ta δ (dd K (.list xs))) (hb : EvD m tb δ (di K i)) (h : L2.atI xs i = some d) : EvD m (tOp (rIxL K) ta tb) δ (dd K d) := ev_op ha hb fun x y G H c px py Q q => by
  cases py
  cases px with
  | @lst a vs _ e1 d1 =>
    obtain ⟨v, e, p⟩ := dpa_atI d1 h
    exact ⟨a, vs, i, v, rfl, rfl, SqL.mono e1 c.gh, e, q _ G H (Go.refl c) p⟩
theorem ev_ixT {xs : List PyData} {i : Int} {d : PyData} (ha : EvD m ta δ (dd K (.tuple xs))) (hb : EvD m tb δ (di K i)) (h : L2.atI xs i = some d) : EvD m (tOp (rIxT K) ta tb) δ (dd K d) := ev_op ha hb fun x y G H c px py Q q => by
  cases py
  cases px with
  | @tup a vs _ e1 d1 =>
    obtain ⟨v, e, p⟩ := dpa_atI d1 h
    exact ⟨a, vs, i, v, rfl, rfl, SqT.mono e1 c.gh, e, q _ G H (Go.refl c) p⟩
theorem ev_eqD {d e : PyData} (ha : EvD m ta δ (dd K d)) (hb : EvD m tb δ (dd K e)) (h1 : SeqAt.shaped d = true) (h2 : SeqAt.shaped e = true) : EvD m (tOp (rEqD K) ta tb) δ (db K (PyData.eqv d e)) := ev_op ha hb fun x y G H c px py Q q =>
  ⟨d, e, Dp.mono c.gh px, Dp.mono c.gh py, h1, h2, q _ G H (Go.refl c) (.bl _)⟩
theorem ev_neD {d e : PyData} (ha : EvD m ta δ (dd K d)) (hb : EvD m tb δ (dd K e)) (h1 : SeqAt.shaped d = true) (h2 : SeqAt.shaped e = true) : EvD m (tOp (rNeD K) ta tb) δ (db K (!PyData.eqv d e)) := ev_op ha hb fun x y G H c px py Q q =>
  ⟨d, e, Dp.mono c.gh px, Dp.mono c.gh py, h1, h2, q _ G H (Go.refl c) (.bl _)⟩
/-- k in a list, a tuple of ints -/
theorem inV_ints (k : Int) : ∀ (ns : List Int), inV (.int k) (ns.map V.int) = decide (k ∈ ns) := by
  intro ns
  unfold inV
  induction ns with
  | nil => simp
  | cons n ns ih =>
    rw [List.map_cons, List.any_cons, ih]
    have e : eqV (.int n) (.int k) = decide (n = k) := by
      first | rfl | (unfold eqV; simp)
    rw [e]
    by_cases h : n = k
    · subst h; simp
    · have h' : ¬ k = n := fun z => h z.symm
      simp [h, h']
theorem flat_ints : ∀ (ns : List Int), (ns.map V.int).all flatV = true
  | [] => rfl
  | _ :: ns => by rw [List.map_cons, List.all_cons, flat_ints ns]; rfl
theorem ev_inL {k : Int} {ns : List Int} (ha : EvD m ta δ (di K k)) (hb : EvD m tb δ (dd K (.list (ns.map PyData.int)))) : EvD m (tOp (rIn K false) ta tb) δ (db K (decide (k ∈ ns))) := ev_op ha hb fun x y G H c px py Q q => by
  cases px
  cases py with
  | @lst a vs _ e d =>
    cases d.ints
    exact ⟨a, _, rfl, .inl (SqL.mono e c.gh), rfl, flat_ints ns, q _ G H (Go.refl c) (by rw [if_neg Bool.false_ne_true, inV_ints]; exact .bl _)⟩
theorem ev_niL {k : Int} {ns : List Int} (ha : EvD m ta δ (di K k)) (hb : EvD m tb δ (dd K (.list (ns.map PyData.int)))) : EvD m (tOp (rIn K true) ta tb) δ (db K (!decide (k ∈ ns))) := ev_op ha hb fun x y G H c px py Q q => by
  cases px
  cases py with
  | @lst a vs _ e d =>
    cases d.ints
    exact ⟨a, _, rfl, .inl (SqL.mono e c.gh), rfl, flat_ints ns, q _ G H (Go.refl c) (by rw [if_pos rfl, inV_ints]; exact .bl _)⟩
theorem ev_inT {k : Int} {ns : List Int} (ha : EvD m ta δ (di K k)) (hb : EvD m tb δ (dd K (.tuple (ns.map PyData.int)))) : EvD m (tOp (rIn K false) ta tb) δ (db K (decide (k ∈ ns))) := ev_op ha hb fun x y G H c px py Q q => by
  cases px
  cases py with
  | @tup a vs _ e d =>
    cases d.ints
    exact ⟨a, _, rfl, .inr (SqT.mono e c.gh), rfl, flat_ints ns, q _ G H (Go.refl c) (by rw [if_neg Bool.false_ne_true, inV_ints]; exact .bl _)⟩
theorem ev_niT {k : Int} {ns : List Int} (ha : EvD m ta δ (di K k)) (hb : EvD m tb δ (dd K (.tuple (ns.map PyData.int)))) : EvD m (tOp (rIn K true) ta tb) δ (db K (!decide (k ∈ ns))) := ev_op ha hb fun x y G H c px py Q q => by
  cases px
  cases py with
  | @tup a vs _ e d =>
    cases d.ints
    exact ⟨a, _, rfl, .inr (SqT.mono e c.gh), rfl, flat_ints ns, q _ G H (Go.refl c) (by rw [if_pos rfl, inV_ints]; exact .bl _)⟩
def seqD : PyData → Option (List PyData)
  | .list xs => some xs
  | .tuple xs => some xs
  | _ => none
theorem all2_one {G : Hp} {vs : List V} (h : All2 G vs [P]) : ∃ v, vs = [v] ∧ P.φ v G := by
  cases h with
  | cons h t => cases t; exact ⟨_, rfl, h⟩
theorem all2_two {G : Hp} {vs : List V} (h : All2 G vs [P, R]) : ∃ v w, vs = [v, w] ∧ P.φ v G ∧ R.φ w G := by
  cases h with
  | cons h t =>
    obtain ⟨w, e, q⟩ := all2_one t
    subst e
    exact ⟨_, w, rfl, h, q⟩
theorem cb_lenL {ds : List PyData} : CbD m (fun xs H Q => ∃ p ys, xs = [V.ref p] ∧ (SqL K H p ys ∨ SqT K H p ys) ∧ Q (.int ys.length) H) [dd K (.list ds)] (di K ds.length) := fun vs G H c a Q q => by
  obtain ⟨v, rfl, p⟩ := all2_one a
  cases p with
  | @lst b xs _ e d => exact ⟨b, xs, rfl, .inl (SqL.mono e c.gh), q _ G H (Go.refl c) (by rw [d.length]; exact .int _)⟩
theorem cb_lenT {ds : List PyData} : CbD m (fun xs H Q => ∃ p ys, xs = [V.ref p] ∧ (SqL K H p ys ∨ SqT K H p ys) ∧ Q (.int ys.length) H) [dd K (.tuple ds)] (di K ds.length) := fun vs G H c a Q q => by
  obtain ⟨v, rfl, p⟩ := all2_one a
  cases p with
  | @tup b xs _ e d => exact ⟨b, xs, rfl, .inr (SqT.mono e c.gh), q _ G H (Go.refl c) (by rw [d.length]; exact .int _)⟩
theorem cb_listL {ds : List PyData} : CbD m (fun xs H Q => ∃ p ys, xs = [V.ref p] ∧ (SqL K H p ys ∨ SqT K H p ys) ∧ ∀ l, H l = none → Q (.ref l) (upd H l (.lst ys))) [dd K (.list ds)] (dd K (.list ds)) := fun vs G H c a Q q => by
  obtain ⟨v, rfl, p⟩ := all2_one a
  cases p with
  | @lst b xs _ e d => exact ⟨b, xs, rfl, .inl (SqL.mono e c.gh), fun l hl => q _ _ _ (Go.new c hl) (.lst (.inl (.inl upd_same)) (DpAll.mono (Go.new (o := .lst xs) c hl).gg d))⟩
theorem cb_listT {ds : List PyData} : CbD m (fun xs H Q => ∃ p ys, xs = [V.ref p] ∧ (SqL K H p ys ∨ SqT K H p ys) ∧ ∀ l, H l = none → Q (.ref l) (upd H l (.lst ys))) [dd K (.tuple ds)] (dd K (.list ds)) := fun vs G H c a Q q => by
  obtain ⟨v, rfl, p⟩ := all2_one a
  cases p with
  | @tup b xs _ e d => exact ⟨b, xs, rfl, .inr (SqT.mono e c.gh), fun l hl => q _ _ _ (Go.new c hl) (.lst (.inl (.inl upd_same)) (DpAll.mono (Go.new (o := .lst xs) c hl).gg d))⟩
theorem cb_tupleL {ds : List PyData} : CbD m (fun xs H Q => ∃ p ys, xs = [V.ref p] ∧ ((SqL K H p ys ∧ ∀ l, H l = none → Q (.ref l) (upd H l (.tup ys))) ∨ (SqT K H p ys ∧ Q (.ref p) H))) [dd K (.list ds)] (dd K (.tuple ds)) := fun vs G H c a Q q => by
  obtain ⟨v, rfl, p⟩ := all2_one a
  cases p with
  | @lst b xs _ e d => exact ⟨b, xs, rfl, .inl ⟨SqL.mono e c.gh, fun l hl => q _ _ _ (Go.new c hl) (.tup (.inl (.inl upd_same)) (DpAll.mono (Go.new (o := .tup xs) c hl).gg d))⟩⟩
theorem cb_int {i : Int} : CbD m (fun xs H Q => (∃ i, xs = [V.int i] ∧ Q (.int i) H) ∨ ∃ k, xs = [V.bl k] ∧ Q (.int (if k then 1 else 0)) H) [di K i] (di K i) := fun vs G H c a Q q => by
  obtain ⟨v, rfl, p⟩ := all2_one a
  cases p
  exact .inl ⟨i, rfl, q _ G H (Go.refl c) (.int _)⟩
theorem cb_min2 {i j : Int} : CbD m (fun xs H Q => ∃ i j, xs = [V.int i, V.int j] ∧ Q (.int (if j < i then j else i)) H) [di K i, di K j] (di K (if j < i then j else i)) := fun vs G H c a Q q => by
  obtain ⟨v, w, rfl, p, r⟩ := all2_two a
  cases p; cases r
  exact ⟨i, j, rfl, q _ G H (Go.refl c) (.int _)⟩
def tyD : PyData → String
  | .none => "NoneType"
  | .bool _ => "bool"
  | .int _ => "int"
  | .str _ => "str"
  | .list _ => "list"
  | .tuple _ => "tuple"
  | .dict _ => "dict"
end
end Nd

namespace Nd
open PySem L2
structure Ou where
  nx : List (Option Pd) → Prop := fun _ => False
  rt : Pd → Prop := fun _ => False
  bk : List (Option Pd) → Prop := fun _ => False
  ct : List (Option Pd) → Prop := fun _ => False
  ex : Addr → Pd → Prop := fun _ _ => False
/-- an error of the class at C that holds what -/
def Err (C : Addr) (P : Pd) (G' H' : Hp) (E : XK) : Prop := ∀ d v, H' d = some (.xd [(("what" : Str), v)]) → P.φ v G' → E (.ref C) (some d) H'
structure Kx (m : Md) (G H : Hp) (O : Ou) (E : XK) (D : Ends) : Prop where
  nx : ∀ δ' σ' G' H', O.nx δ' → Go m G H G' H' → Sl G' σ' δ' → D.nx σ' H'
  rt : ∀ S v G' H', O.rt S → Go m G H G' H' → S.φ v G' → D.rt v H'
  bk : ∀ δ' σ' G' H', O.bk δ' → Go m G H G' H' → Sl G' σ' δ' → D.bk σ' H'
  ct : ∀ δ' σ' G' H', O.ct δ' → Go m G H G' H' → Sl G' σ' δ' → D.ct σ' H'
  ex : ∀ C P d v G' H', O.ex C P → Go m G H G' H' → H' d = some (.xd [(("what" : Str), v)]) → P.φ v G' → E (.ref C) (some d) H'
theorem Kx.go {m : Md} {G H G1 H1 : Hp} {O : Ou} {E : XK} {D : Ends} (k : Kx m G H O E D) (g : Go m G H G1 H1) : Kx m G1 H1 O E D :=
  ⟨fun a b e f x y z => k.nx a b e f x (g.trans y) z, fun a b e f x y z => k.rt a b e f x (g.trans y) z, fun a b e f x y z => k.bk a b e f x (g.trans y) z, fun a b e f x y z => k.ct a b e f x (g.trans y) z,
    fun a b d v e f x y z w => k.ex a b d v e f x (g.trans y) z w⟩
def Bl (m : Md) (E : XK) (ts : TS) (δ : List (Option Pd)) (O : Ou) : Prop :=
  ∀ (σ : L2.St) (G H : Hp) (D : Ends), Sl G σ δ → Cn m G H → Kx m G H O E D → ts D σ H
section
variable {K : PySem.W.Frag} {m : Md} {E : XK} {δ : List (Option Pd)} {ta tb tc te : TE} {t u : TT} {P R S T : Pd} {t1 t2 : TS} {O : Ou}
theorem bl_seq (M : List (Option Pd) → Prop) (h1 : Bl m E t1 δ { O with nx := M }) (h2 : ∀ δ', M δ' → Bl m E t2 δ' O) : Bl m E (tSeq t1 t2) δ O := fun σ G H D s c k =>
  h1 σ G H { D with nx := t2 D } s c ⟨fun δ' σ' G' H' hm g s' => h2 δ' hm σ' G' H' D s' (g.cn c) (k.go g), k.rt, k.bk, k.ct, k.ex⟩
/-- x = e; rest -/
theorem bl_set {i : Nat} (h : EvD m te δ P) (k : Bl m E t2 (δ.set i (some P)) O) : Bl m E (tSeq (tAsg te (gName i)) t2) δ O := fun σ G H D s c kx =>
  h σ G H s c _ fun v G1 H1 g p => k _ G1 H1 D ((s.mono g.gg).set p) (g.cn c) (kx.go g)
theorem bl_set1 {i : Nat} (h : EvD m te δ P) (k : O.nx (δ.set i (some P))) : Bl m E (tAsg te (gName i)) δ O := fun σ G H D s c kx =>
  h σ G H s c _ fun v G1 H1 g p => kx.nx _ _ G1 H1 k g ((s.mono g.gg).set p)
theorem bl_ret (h : EvD m te δ P) (k : O.rt P) : Bl m E (tRet te) δ O := fun σ G H D s c kx => h σ G H s c _ fun v G1 H1 g p => kx.rt P v G1 H1 k g p
theorem bl_next (k : O.nx δ) : Bl m E tNext δ O := fun σ G H D s c kx => kx.nx δ σ G H k (Go.refl c) s
theorem bl_brk (k : O.bk δ) : Bl m E tBreak δ O := fun σ G H D s c kx => kx.bk δ σ G H k (Go.refl c) s
theorem bl_cont (k : O.ct δ) : Bl m E tCont δ O := fun σ G H D s c kx => kx.ct δ σ G H k (Go.refl c) s
theorem bl_drop (h : EvD m te δ P) (k : O.nx δ) : Bl m E (tDrop te) δ O := fun σ G H D s c kx => h σ G H s c _ fun v G1 H1 g p => kx.nx δ σ G1 H1 k g (s.mono g.gg)
theorem bl_dropS (h : EvD m te δ P) (k : Bl m E t2 δ O) : Bl m E (tSeq (tDrop te) t2) δ O := bl_seq (fun d => d = δ) (bl_drop h rfl) fun d e => by subst e; exact k
theorem bl_if {b : Bool} (h : EvB m t δ b) (h1 : b = true → Bl m E t1 δ O) (h2 : b = false → Bl m E t2 δ O) : Bl m E (tIfS t t1 t2) δ O := fun σ G H D s c kx =>
  h σ G H s c _ fun G1 H1 g => by
    cases b with
    | true => exact h1 rfl _ G1 H1 D (s.mono g.gg) (g.cn c) (kx.go g)
    | false => exact h2 rfl _ G1 H1 D (s.mono g.gg) (g.cn c) (kx.go g)
/-- if t: .. else: ..; rest -/
theorem bl_ifR {b : Bool} {t3 : TS} (h : EvB m t δ b) (h1 : b = true → Bl m E (tSeq t1 t3) δ O) (h2 : b = false → Bl m E (tSeq t2 t3) δ O) : Bl m E (tSeq (tIfS t t1 t2) t3) δ O := fun σ G H D s c kx =>
  h σ G H s c _ fun G1 H1 g => by
    cases b with
    | true => exact h1 rfl _ G1 H1 D (s.mono g.gg) (g.cn c) (kx.go g)
    | false => exact h2 rfl _ G1 H1 D (s.mono g.gg) (g.cn c) (kx.go g)
theorem bl_nextS (k : Bl m E t2 δ O) : Bl m E (tSeq tNext t2) δ O := fun σ G H D s c kx => k σ G H D s c kx
theorem bl_retS (h : EvD m te δ P) (k : O.rt P) : Bl m E (tSeq (tRet te) t2) δ O := fun σ G H D s c kx => h σ G H s c _ fun v G1 H1 g p => kx.rt P v G1 H1 k g p
theorem bl_assoc {t3 : TS} (k : Bl m E (tSeq t1 (tSeq t2 t3)) δ O) : Bl m E (tSeq (tSeq t1 t2) t3) δ O := k
theorem Bl.weak {O' : Ou} (h : Bl m E t1 δ O) (a : ∀ d, O.nx d → O'.nx d) (b : ∀ d, O.rt d → O'.rt d) (c' : ∀ d, O.bk d → O'.bk d) (e' : ∀ d, O.ct d → O'.ct d) (f' : ∀ C P, O.ex C P → O'.ex C P) : Bl m E t1 δ O' := fun σ G H D s c k =>
  h σ G H D s c ⟨fun d w x y z => k.nx d w x y (a d z), fun d w x y z => k.rt d w x y (b d z), fun d w x y z => k.bk d w x y (c' d z), fun d w x y z => k.ct d w x y (e' d z), fun d w v x y z u => k.ex d w v x y z (f' d w u)⟩
/-- what is walked: n turns, the i-th gives a thing described by Y i -/
def WkD (m : Md) (wi : TI) (δ : List (Option Pd)) (n : Nat) (Y : Nat → Pd) : Prop :=
  ∀ (σ : L2.St) (G H : Hp), Sl G σ δ → Cn m G H → ∀ Q : It → Hp → Prop,
    (∀ J G1 H1, Go m G H G1 H1 → (∃ Gd : Hp → Prop, ∃ Yl : Nat → Hp → V → Hp → Prop, L2.Walk J n Gd Yl ∧ (∀ H', Same G1 H' → Gd H') ∧
      (∀ (m' : Md) i H' x H'' G', i < n → Same G1 G' → Cn m' G' H' → Yl i H' x H'' → ∃ G'', Go m' G' H' G'' H'' ∧ (Y i).φ x G'')) → Q J H1) → wi σ H Q
theorem wk_list {ds : List PyData} (h : EvD m te δ (dd K (.list ds))) : WkD m (iList K te) δ ds.length (fun i => dd K (ds.getD i .none)) := fun σ G H s c Q q =>
  h σ G H s c _ fun v G1 H1 g p => by
    cases p with
    | @lst a vs _ e d =>
      refine ⟨a, rfl, ⟨vs, SqL.mono e (g.cn c).gh⟩, q _ G1 H1 g ⟨fun H => SqL K H a vs, YAt vs, ?_, fun H' s' => SqL.mono e s', ?_⟩⟩
      · rw [← d.length]; exact walk_list
      · rintro m' i H' x H'' G' hi s' c' ⟨rfl, hx⟩
        obtain ⟨d', e1, e2⟩ := d.getV hx
        refine ⟨G', Go.refl c', ?_⟩
        show Dp K G' x (ds.getD i .none)
        rw [List.getD_eq_getElem?_getD, e1]
        exact Dp.mono s' e2
theorem wk_tup {ds : List PyData} (h : EvD m te δ (dd K (.tuple ds))) : WkD m (iTup K te) δ ds.length (fun i => dd K (ds.getD i .none)) := fun σ G H s c Q q =>
  h σ G H s c _ fun v G1 H1 g p => by
    cases p with
    | @tup a vs _ e d =>
      refine ⟨a, rfl, ⟨vs, SqT.mono e (g.cn c).gh⟩, q _ G1 H1 g ⟨fun H => SqT K H a vs, YAt vs, ?_, fun H' s' => SqT.mono e s', ?_⟩⟩
      · rw [← d.length]; exact walk_tup
      · rintro m' i H' x H'' G' hi s' c' ⟨rfl, hx⟩
        obtain ⟨d', e1, e2⟩ := d.getV hx
        refine ⟨G', Go.refl c', ?_⟩
        show Dp K G' x (ds.getD i .none)
        rw [List.getD_eq_getElem?_getD, e1]
        exact Dp.mono s' e2
theorem wk_rng1 {ta : TA} {n : Int} (h : EvA m ta δ [di K n]) (h1 : n ≤ 1000000000) (h2 : -1000000000 ≤ n) : WkD m (iRng1 ta) δ n.toNat (fun i => di K (i : Int)) := fun σ G H s c Q q =>
  h σ G H s c _ fun vs G1 H1 g ap => by
    obtain ⟨v, rfl, p⟩ := all2_one ap
    cases p
    refine ⟨n, rfl, by omega, by omega, q _ G1 H1 g ⟨fun _ => True, _, walk_range, fun _ _ => trivial, ?_⟩⟩
    rintro m' i H' x H'' G' hi s' c' ⟨rfl, rfl⟩
    refine ⟨G', Go.refl c', ?_⟩
    show Dp K G' (.int (0 + (i : Int))) (.int (i : Int))
    rw [Int.zero_add]
    exact .int _
theorem wk_rng2 {ta : TA} {lo n : Int} (h : EvA m ta δ [di K lo, di K n]) (h1 : n ≤ 1000000000) (h2 : -1000000000 ≤ n) (h3 : lo ≤ 1000000000) (h4 : -1000000000 ≤ lo) : WkD m (iRng2 ta) δ (n - lo).toNat (fun i => di K (lo + (i : Int))) := fun σ G H s c Q q =>
  h σ G H s c _ fun vs G1 H1 g ap => by
    obtain ⟨v, w, rfl, p, r⟩ := all2_two ap
    cases p; cases r
    refine ⟨lo, n, rfl, ⟨by omega, by omega, by omega, by omega⟩, q _ G1 H1 g ⟨fun _ => True, _, walk_range, fun _ _ => trivial, ?_⟩⟩
    rintro m' i H' x H'' G' hi s' c' ⟨rfl, rfl⟩
    exact ⟨G', Go.refl c', .int _⟩
/-- for x in ..: body; rest. Iv i tells the slots ahead of turn i -/
theorem bl_for {wi : TI} {j n : Nat} {Y : Nat → Pd} {tb : TS} {t3 : TS} (Iv : Nat → List (Option Pd) → Prop) (hw : WkD m wi δ n Y) (h0 : Iv 0 δ)
    (hs : ∀ i d, i < n → Iv i d → Bl m E tb (d.set j (some (Y i))) { nx := Iv (i + 1), ct := Iv (i + 1), rt := O.rt, bk := fun d' => Bl m E t3 d' O, ex := O.ex })
    (hd : ∀ d, Iv n d → Bl m E t3 d O) : Bl m E (tSeq (tFor wi (gName j) tb) t3) δ O := fun σ G H D s c kx =>
  hw σ G H s c _ fun J G1 H1 g ⟨Gd, Yl, W, hG, hY⟩ => by
    have c1 := g.cn c
    refine for_it W (fun i σ' H' => ∃ d G', Go m G1 H1 G' H' ∧ Sl G' σ' d ∧ Iv i d) ⟨δ, G1, Go.refl c1, s.mono g.gg, h0⟩ (fun i σ' H' _ ⟨d, G', g', _⟩ => hG H' (g'.gg.trans g'.gh)) ?_ ?_
    · rintro i x σ' H' H'' hi ⟨d, G', g', s', iv⟩ y
      obtain ⟨G'', g'', px⟩ := hY m i H' x H'' G' hi g'.gg (g'.cn c1) y
      have gg := g'.trans g''
      have kk := kx.go (g.trans gg)
      refine hs i d hi iv _ G'' H'' _ ((s'.mono g''.gg).set px) (gg.cn c1) ⟨?_, kk.rt, ?_, ?_, kk.ex⟩
      · exact fun d' σ2 G2 H2 a b e => ⟨d', G2, gg.trans b, e, a⟩
      · exact fun d' σ2 G2 H2 a b e => a σ2 G2 H2 D e (b.cn (gg.cn c1)) (kk.go b)
      · exact fun d' σ2 G2 H2 a b e => ⟨d', G2, gg.trans b, e, a⟩
    · rintro σ' H' ⟨d, G', g', s', iv⟩
      exact hd d iv σ' G' H' D s' (g'.cn c1) (kx.go (g.trans g'))
end
end Nd

namespace Nd
open PySem L2
def wipeD (δ : List (Option Pd)) : List Nat → List (Option Pd)
  | [] => δ
  | v :: vs => (wipeD δ vs).set v none
theorem wipeD_length (δ : List (Option Pd)) : ∀ vs : List Nat, (wipeD δ vs).length = δ.length
  | [] => rfl
  | v :: vs => by unfold wipeD; rw [List.length_set, wipeD_length δ vs]
theorem Sl.setN {G : Hp} {σ : L2.St} {δ : List (Option Pd)} (h : Sl G σ δ) {i : Nat} : Sl G (σ.set i none) (δ.set i none) := by
  refine ⟨by rw [List.length_set, List.length_set]; exact h.1, fun j R e => ?_⟩
  by_cases hj : i = j
  · subst hj
    by_cases hi : i < δ.length
    · rw [List.getElem?_set_self hi] at e; cases e
    · rw [List.getElem?_eq_none (by rw [List.length_set]; omega)] at e; cases e
  · rw [List.getElem?_set_ne hj] at e
    obtain ⟨w, a, b⟩ := h.2 j R e
    exact ⟨w, by rw [List.getElem?_set_ne hj]; exact a, b⟩
theorem Sl.wipe {G : Hp} {σ : L2.St} {δ : List (Option Pd)} (h : Sl G σ δ) : ∀ vs : List Nat, Sl G (wipe σ vs) (wipeD δ vs)
  | [] => h
  | _ :: vs => (Sl.wipe h vs).setN
theorem wipe_set {σ : L2.St} {j : Nat} {y : Option V} : ∀ {vs : List Nat}, j ∈ vs → ∀ τ : L2.St, wipe ((wipe τ vs).set j y) vs = wipe τ vs := by
  -- wiping is pointwise: compare by places
  have at_wipe : ∀ (vs : List Nat) (τ : L2.St) (i : Nat), (wipe τ vs)[i]? = if i ∈ vs then (if i < τ.length then some none else none) else τ[i]? := by
    intro vs
    induction vs with
    | nil => intro τ i; simp [wipe]
    | cons v vs ih =>
      intro τ i
      unfold wipe
      by_cases h : v = i
      · subst h
        by_cases hl : v < τ.length
        · rw [List.getElem?_set_self (by rw [wipe_length]; exact hl)]; simp [hl]
        · rw [List.getElem?_eq_none (by rw [List.length_set, wipe_length]; omega)]; simp [hl]
      · rw [List.getElem?_set_ne h, ih]
        have : (i ∈ v :: vs) ↔ i ∈ vs := by simp [Ne.symm h]
        simp only [this]
  intro vs hj τ
  apply List.ext_getElem?
  intro i
  rw [at_wipe, at_wipe]
  by_cases hi : i ∈ vs
  · simp [hi, wipe_length]
  · simp only [hi, if_false]
    have hne : j ≠ i := fun e => hi (e ▸ hj)
    rw [List.getElem?_set_ne hne, at_wipe]
    simp [hi]
section
variable {K : PySem.W.Frag} {m : Md} {δ : List (Option Pd)} {ta tb tc te : TE} {t u : TT} {P R S T : Pd}
theorem range_fm {n : Nat} {b : Nat → Bool} {f : Nat → PyData} : (((List.range (n + 1)).filter b).map f) = ((List.range n).filter b).map f ++ (if b n = true then [f n] else []) := by
  rw [List.range_succ, List.filter_append, List.map_append]
  congr 1
  by_cases h : b n = true
  · simp [h]
  · simp [h]
/-- what stands while a comprehension runs -/
structure CpI (m : Md) (K : PySem.W.Frag) (G1 H1 : Hp) (D : Addr) (H' : Hp) (ds : List PyData) : Prop where
  ex : ∃ G' acc, Go m G1 H1 G' H' ∧ G' D = none ∧ H' D = some (.lst acc) ∧ DpAll K G' acc ds
theorem cp_start {G1 H1 : Hp} {D : Addr} (c : Cn m G1 H1) (hD : H1 D = none) : CpI m K G1 H1 D (upd H1 D (.lst [])) [] := by
  have s : Same H1 (upd H1 D (.lst [])) := fun a u e => by rw [upd_ne (ne_of_none e hD)]; exact e
  have gD : G1 D = none := by
    cases q : G1 D with
    | none => rfl
    | some o => rw [c.gh D o q] at hD; cases hD
  exact ⟨G1, [], Go.same c s, gD, upd_same, .nil⟩
/-- one more is put in -/
theorem cp_more {G1 H1 G' H' : Hp} {D : Addr} {acc : List V} {ds : List PyData} {v : V} {d : PyData} (c : Cn m G1 H1) (hD : H1 D = none) (g : Go m G1 H1 G' H') (gD : G' D = none) (hd : DpAll K G' acc ds) (p : Dp K G' v d) :
    CpI m K G1 H1 D (upd H' D (.lst (acc ++ [v]))) (ds ++ [d]) := by
  refine ⟨G', acc ++ [v], ⟨g.gg, fun a u e => ?_, g.fr, fun a u e h => ?_, Md.upd g.iv (Md.fresh c.iv hD)⟩, gD, upd_same, hd.append (.cons p .nil)⟩
  · rw [upd_ne (ne_of_none e gD)]; exact g.gh a u e
  · rw [upd_ne (ne_of_none h hD)]; exact g.r a u e h
/-- the list is made, from now on it is known -/
theorem cp_done {G1 H1 H' : Hp} {D : Addr} {ds : List PyData} (c : Cn m G1 H1) (hD : H1 D = none) (h : CpI m K G1 H1 D H' ds) : ∃ G', Go m G1 H1 G' H' ∧ Dp K G' (.ref D) (.list ds) := by
  obtain ⟨G', acc, g, gD, hd, d⟩ := h.ex
  have nD : ∀ a, m.chg a → a ≠ D := fun a e z => Md.fresh c.iv hD (m.sub D (z ▸ e))
  have s : Same G' (upd G' D (.lst acc)) := fun a u e => by rw [upd_ne (ne_of_none e gD)]; exact e
  refine ⟨upd G' D (.lst acc), ⟨g.gg.trans s, fun a u e => ?_, fun a u e n => ?_, g.r, g.iv⟩, .lst (.inl (.inl upd_same)) (DpAll.mono s d)⟩
  · by_cases q : a = D
    · subst q; rw [upd_same] at e; rw [hd]; exact e
    · rw [upd_ne q] at e; exact g.gh a u e
  · by_cases q : a = D
    · subst q; exact hD
    · rw [upd_ne q] at e; exact g.fr a u e n
theorem Cn.hold {G H : Hp} {D : Addr} {o : HO} (c : Cn m G H) (hD : H D = some o) (gD : G D = none) : Cn (m.hold D o) G H := ⟨c.gh, ⟨c.iv, hD⟩, fun a e => e.elim (c.nm a) fun z => by rw [z]; exact gD⟩
theorem Go.out {G H G' H' : Hp} {D : Addr} {o : HO} (g : Go m G H G' H') (gD : G D = none) (hD : H D = some o) : G' D = none := by
  cases q : G' D with
  | none => rfl
  | some u => rw [g.fr D u q gD] at hD; cases hD
/-- a target: what it stores -/
def TgD (g : TG) (Y : Pd) (δ δ' : List (Option Pd)) (vs : List Nat) : Prop :=
  ∀ (x : V) (σ : L2.St) (G H : Hp) (Q : L2.St → Hp → Prop), Sl G (wipe σ vs) δ → Same G H → Y.φ x G → (∀ σ2, Sl G σ2 δ' → wipe σ2 vs = wipe σ vs → Q σ2 H) → g x (wipe σ vs) H Q
theorem tg_name {Y : Pd} {j : Nat} {vs : List Nat} (hj : j ∈ vs) : TgD (gName j) Y δ (δ.set j (some Y)) vs := fun x σ G H Q s _ p q => q _ (s.set p) (wipe_set (σ := σ) hj σ)
theorem wipe_set2 {σ : L2.St} {j k : Nat} {y z : Option V} {vs : List Nat} (hj : j ∈ vs) (hk : k ∈ vs) : wipe (((wipe σ vs).set j y).set k z) vs = wipe σ vs := by
  have h1 := wipe_set (σ := σ) (y := z) hk ((wipe σ vs).set j y)
  have h2 := wipe_set (σ := σ) (y := y) hj σ
  rw [h2] at h1
  -- (wipe τ vs).set k z wiped, with τ := (wipe σ vs).set j y; but the set stands outside of the wiping: compare by places
  have at_wipe : ∀ (vs : List Nat) (τ : L2.St) (i : Nat), (wipe τ vs)[i]? = if i ∈ vs then (if i < τ.length then some none else none) else τ[i]? := by
    intro vs
    induction vs with
    | nil => intro τ i; simp [wipe]
    | cons v vs ih =>
      intro τ i
      unfold wipe
      by_cases h : v = i
      · subst h
        by_cases hl : v < τ.length
        · rw [List.getElem?_set_self (by rw [wipe_length]; exact hl)]; simp [hl]
        · rw [List.getElem?_eq_none (by rw [List.length_set, wipe_length]; omega)]; simp [hl]
      · rw [List.getElem?_set_ne h, ih]
        have : (i ∈ v :: vs) ↔ i ∈ vs := by simp [Ne.symm h]
        simp only [this]
  apply List.ext_getElem?
  intro i
  rw [at_wipe, at_wipe]
  by_cases hi : i ∈ vs
  · simp [hi, wipe_length]
  · simp only [hi, if_false]
    have hne : j ≠ i := fun e => hi (e ▸ hj)
    have hne2 : k ≠ i := fun e => hi (e ▸ hk)
    rw [List.getElem?_set_ne hne2, List.getElem?_set_ne hne, at_wipe]
    simp [hi]
theorem tg_pair {d e : PyData} {j k : Nat} {vs : List Nat} (hj : j ∈ vs) (hk : k ∈ vs) : TgD (gTup K 2 (gCons (gName j) (gCons (gName k) gNil))) (dd K (.tuple [d, e])) δ ((δ.set j (some (dd K d))).set k (some (dd K e))) vs := fun x σ G H Q s sg p q => by
  cases p with
  | @tup a xs _ h da =>
    cases da with
    | cons h1 t1 =>
      cases t1 with
      | cons h2 t2 =>
        cases t2
        exact ⟨a, _, rfl, SqT.mono h sg, rfl, _, _, rfl, _, _, rfl, rfl, q _ ((s.set h1).set h2) (wipe_set2 hj hk)⟩
/-- [e for target in .. if t] -/
theorem ev_lcG {wi : TI} {g0 : TG} {n : Nat} {Y : Nat → Pd} {tt : TT} {vs : List Nat} {b : Nat → Bool} {f : Nat → PyData} {δ' : Nat → List (Option Pd)} (hw : WkD m wi δ n Y) (hg : ∀ i, i < n → TgD g0 (Y i) (wipeD δ vs) (δ' i) vs) (hn : n ≤ 1000000)
    (ht : ∀ D o, ¬ m.dep D → ∀ i, i < n → EvB (m.hold D o) tt (δ' i) (b i))
    (he : ∀ D o, ¬ m.dep D → ∀ i, i < n → b i = true → EvD (m.hold D o) te (δ' i) (dd K (f i))) :
    EvD m (tLc wi g0 tt te vs) δ (dd K (.list (((List.range n).filter b).map f))) := fun σ G H s c Q q =>
  hw σ G H s c _ fun J G1 H1 g ⟨Gd, Yl, W, hG, hY⟩ D hD => by
    have c1 := g.cn c
    refine lc_it W (fun i H' => CpI m K G1 H1 D H' (((List.range i).filter b).map f)) (cp_start c1 hD) (fun i H' _ ⟨G', acc, g', _⟩ => hG H' (g'.gg.trans g'.gh)) ?_ ?_
    · rintro i x H' H'' hi ⟨G', acc, g', gD, hd, da⟩ y
      obtain ⟨G2, g2, px⟩ := hY m i H' x H'' G' hi g'.gg (g'.cn c1) y
      have nD : ¬ m.chg D := fun e => Md.fresh c1.iv hD (m.sub D e)
      have hd2 : H'' D = some (.lst acc) := g2.r D _ nD hd
      have gD2 := g2.out gD hd
      have gg := g'.trans g2
      have ch := (gg.cn c1).hold hd2 gD2
      have nd := Md.fresh c1.iv hD
      refine hg i hi x σ G2 H'' _ ((s.mono (g.gg.trans gg.gg)).wipe vs) ch.gh px fun σ2 s2 hwp => ?_
      refine ⟨hwp, ?_⟩
      refine ht D (.lst acc) nd i hi _ G2 H'' s2 ch _ fun G3 H3 g3 => ?_
      have g3' := g3.unhold hd2
      have hd3 : H3 D = some (.lst acc) := g3.iv.2
      have gD3 := g3'.out gD2 hd2
      rw [range_fm]
      by_cases hb : b i = true
      · rw [if_pos hb, if_pos hb]
        refine he D (.lst acc) nd i hi hb _ G3 H3 (s2.mono g3.gg) (g3.cn ch) _ fun v G4 H4 g4 p => ?_
        have g4' := g4.unhold hd3
        refine ⟨acc, g4.iv.2, ?_, cp_more c1 hD ((gg.trans g3').trans g4') (g4'.out gD3 hd3) (DpAll.mono ((g2.gg.trans g3.gg).trans g4.gg) da) p⟩
        have l1 := da.length
        have l2 : (((List.range i).filter b).map f).length ≤ i := by
          rw [List.length_map]
          exact Nat.le_trans (List.length_filter_le _ _) (by rw [List.length_range]; exact Nat.le_refl _)
        have : (1000000 : Nat) < sizeLine := by decide
        omega
      · have hb' : b i = false := by simpa using hb
        rw [if_neg hb, if_neg hb, List.append_nil]
        exact ⟨G3, acc, gg.trans g3', gD3, hd3, DpAll.mono (g2.gg.trans g3.gg) da⟩
    · intro H' h
      obtain ⟨G', g', p⟩ := cp_done c1 hD h
      exact q _ G' H' (g.trans g') p
/-- .. the target one name -/
theorem ev_lc {wi : TI} {j n : Nat} {Y : Nat → Pd} {tt : TT} {vs : List Nat} {b : Nat → Bool} {f : Nat → PyData} (hw : WkD m wi δ n Y) (hj : j ∈ vs) (hn : n ≤ 1000000)
    (ht : ∀ D o, ¬ m.dep D → ∀ i, i < n → EvB (m.hold D o) tt ((wipeD δ vs).set j (some (Y i))) (b i))
    (he : ∀ D o, ¬ m.dep D → ∀ i, i < n → b i = true → EvD (m.hold D o) te ((wipeD δ vs).set j (some (Y i))) (dd K (f i))) :
    EvD m (tLc wi (gName j) tt te vs) δ (dd K (.list (((List.range n).filter b).map f))) := ev_lcG hw (fun _ _ => tg_name hj) hn ht he
/-- zip of two tuples -/
theorem wk_zipT {ta : TA} {xs ys : List PyData} (h : EvA m ta δ [dd K (.tuple xs), dd K (.tuple ys)]) : WkD m (RZ.iZipA K ta) δ (min xs.length ys.length) (fun i => dd K (.tuple [xs.getD i .none, ys.getD i .none])) := fun σ G H s c Q q =>
  h σ G H s c _ fun vs G1 H1 g ap => by
    obtain ⟨v, w, rfl, p, r⟩ := all2_two ap
    cases p with
    | @tup a vs _ e d =>
      cases r with
      | @tup b ws _ e' d' =>
        refine ⟨a, b, vs, ws, rfl, .inr ⟨SqT.mono e (g.cn c).gh, SqT.mono e' (g.cn c).gh, q _ G1 H1 g ⟨fun H => SqT K H a vs ∧ SqT K H b ws, YPair (fun i => vs[i]?) (fun i => ws[i]?), ?_, fun H' s' => ⟨SqT.mono e s', SqT.mono e' s'⟩, ?_⟩⟩⟩
        · rw [← d.length, ← d'.length]
          refine ⟨fun i _ hi q => ?_, fun _ q => ⟨vs, ws, q.1, q.2, by omega⟩, fun i H v H' _ q y => ?_⟩
          · have h1 : i < vs.length := by omega
            have h2 : i < ws.length := by omega
            exact ⟨vs, ws, vs[i], ws[i], q.1, q.2, by simp [h1], by simp [h2]⟩
          · obtain ⟨T, x, z, h1, h2, h3, h4, h5⟩ := y
            exact ⟨T, x, z, h1, h2, h3, h4 vs q.1, h5 ws q.2⟩
        · rintro m' i H' x H'' G' hi s' c' ⟨T, x1, x2, rfl, hT, rfl, hx1, hx2⟩
          obtain ⟨d1, e1, p1⟩ := d.getV hx1
          obtain ⟨d2, e2, p2⟩ := d'.getV hx2
          have t := Go.new (o := .tup [x1, x2]) c' hT
          refine ⟨_, t, ?_⟩
          show Dp K _ (.ref T) (.tuple [xs.getD i .none, ys.getD i .none])
          rw [List.getD_eq_getElem?_getD, e1, List.getD_eq_getElem?_getD, e2]
          exact .tup (.inl (.inl upd_same)) (.cons (Dp.mono (s'.trans t.gg) p1) (.cons (Dp.mono (s'.trans t.gg) p2) .nil))
/-- [e for x in .. for y in .. if t] -/
theorem ev_lc2 {wi wi1 : TI} {j j1 n : Nat} {Y : Nat → Pd} {n1 : Nat → Nat} {Y1 : Nat → Nat → Pd} {tt1 : TT} {vs vs1 : List Nat} {b : Nat → Nat → Bool} {f : Nat → Nat → PyData} (hw : WkD m wi δ n Y) (hj : j ∈ vs) (hj1 : j1 ∈ vs1)
    (hn : ∀ k, k ≤ n → ((List.range k).flatMap fun i => ((List.range (n1 i)).filter (b i)).map (f i)).length ≤ 1000000) (hn1 : ∀ i, i < n → n1 i ≤ 1000000)
    (hw1 : ∀ D o, ¬ m.dep D → ∀ i, i < n → WkD (m.hold D o) wi1 ((wipeD δ vs).set j (some (Y i))) (n1 i) (Y1 i))
    (ht : ∀ D o, ¬ m.dep D → ∀ i k, i < n → k < n1 i → EvB (m.hold D o) tt1 ((wipeD ((wipeD δ vs).set j (some (Y i))) vs1).set j1 (some (Y1 i k))) (b i k))
    (he : ∀ D o, ¬ m.dep D → ∀ i k, i < n → k < n1 i → b i k = true → EvD (m.hold D o) te ((wipeD ((wipeD δ vs).set j (some (Y i))) vs1).set j1 (some (Y1 i k))) (dd K (f i k))) :
    EvD m (tLc2 wi (gName j) tYes wi1 (gName j1) tt1 te vs vs1) δ (dd K (.list ((List.range n).flatMap fun i => ((List.range (n1 i)).filter (b i)).map (f i)))) := fun σ G H s c Q q =>
  hw σ G H s c _ fun J G1 H1 g ⟨Gd, Yl, W, hG, hY⟩ D hD => by
    have c1 := g.cn c
    have nd := Md.fresh c1.iv hD
    have nD : ¬ m.chg D := fun e => nd (m.sub D e)
    have big : (3000000 : Nat) < sizeLine := by decide
    refine ⟨fun i k H' => k = n - i ∧ i ≤ n ∧ CpI m K G1 H1 D H' ((List.range i).flatMap fun i => ((List.range (n1 i)).filter (b i)).map (f i)), ⟨n, by simp, Nat.zero_le _, cp_start c1 hD⟩, ?_⟩
    rintro i k H' ⟨rfl, hi, ⟨G', acc, g', gD, hd, da⟩⟩
    by_cases hlt : i < n
    · refine .inr ⟨W.goes i H' hlt (hG H' (g'.gg.trans g'.gh)), fun H' => CpI m K G1 H1 D H' ((List.range (i + 1)).flatMap fun i => ((List.range (n1 i)).filter (b i)).map (f i)), fun H'' h => ⟨n - (i + 1), by omega, rfl, hlt, h⟩, fun x H'' y => ?_⟩
      have y := W.yields i H' x H'' hlt (hG H' (g'.gg.trans g'.gh)) y
      obtain ⟨G2, g2, px⟩ := hY m i H' x H'' G' hlt g'.gg (g'.cn c1) y
      have hd2 : H'' D = some (.lst acc) := g2.r D _ nD hd
      have gD2 := g2.out gD hd
      have gg := g'.trans g2
      have s2 : Sl G2 ((wipe σ vs).set j (some x)) ((wipeD δ vs).set j (some (Y i))) := ((s.mono (g.gg.trans gg.gg)).wipe vs).set px
      have ch := (gg.cn c1).hold hd2 gD2
      refine ⟨wipe_set (σ := σ) hj σ, ?_⟩
      unfold tYes
      dsimp only
      rw [if_pos rfl]
      refine hw1 D (.lst acc) nd i hlt _ G2 H'' s2 ch _ fun J1 G3 H3 g3 ⟨Gd1, Yl1, W1, hG1, hY1⟩ => ?_
      have g3' := g3.unhold hd2
      have hd3 : H3 D = some (.lst acc) := g3.iv.2
      have gD3 := g3'.out gD2 hd2
      have g03 := gg.trans g3'
      have l1 := da.length
      have l2 := hn i hi
      refine ⟨fun e k' H4 => k' = n1 i - e ∧ e ≤ n1 i ∧ ∃ G4 acc4, Go m G1 H1 G4 H4 ∧ Same G3 G4 ∧ G4 D = none ∧ H4 D = some (.lst acc4) ∧ DpAll K G4 acc4 (((List.range i).flatMap fun i => ((List.range (n1 i)).filter (b i)).map (f i)) ++ ((List.range e).filter (b i)).map (f i)), ⟨n1 i, by simp, Nat.zero_le _, G3, acc, g03, Same.refl _, gD3, hd3, by simpa using DpAll.mono (g2.gg.trans g3.gg) da⟩, ?_⟩
      rintro e k' H4 ⟨rfl, he', G4, acc4, g4, s34, gD4, hd4, da4⟩
      have l4 := da4.length
      rw [List.length_append] at l4
      have l5 : (((List.range e).filter (b i)).map (f i)).length ≤ e := by
        rw [List.length_map]
        exact Nat.le_trans (List.length_filter_le _ _) (by rw [List.length_range]; exact Nat.le_refl _)
      have l6 := hn1 i hlt
      by_cases hle : e < n1 i
      · refine .inr ⟨W1.goes e H4 hle (hG1 H4 (s34.trans g4.gh)), fun H5 => ∃ G4 acc4, Go m G1 H1 G4 H5 ∧ Same G3 G4 ∧ G4 D = none ∧ H5 D = some (.lst acc4) ∧ DpAll K G4 acc4 (((List.range i).flatMap fun i => ((List.range (n1 i)).filter (b i)).map (f i)) ++ ((List.range (e + 1)).filter (b i)).map (f i)), fun H5 h => ⟨n1 i - (e + 1), by omega, rfl, hle, h⟩, fun x1 H5 y1 => ?_⟩
        have y1 := W1.yields e H4 x1 H5 hle (hG1 H4 (s34.trans g4.gh)) y1
        obtain ⟨G5, g5, px1⟩ := hY1 m e H4 x1 H5 G4 hle s34 (g4.cn c1) y1
        have hd5 : H5 D = some (.lst acc4) := g5.r D _ nD hd4
        have gD5 := g5.out gD4 hd4
        have g05 := g4.trans g5
        have ch5 := (g05.cn c1).hold hd5 gD5
        have s5 : Sl G5 ((wipe ((wipe σ vs).set j (some x)) vs1).set j1 (some x1)) ((wipeD ((wipeD δ vs).set j (some (Y i))) vs1).set j1 (some (Y1 i e))) := ((s2.mono (g3.gg.trans (s34.trans g5.gg))).wipe vs1).set px1
        refine ⟨wipe_set (σ := σ) hj1 _, ?_⟩
        refine ht D (.lst acc4) nd i e hlt hle _ G5 H5 s5 ch5 _ fun G6 H6 g6 => ?_
        have g6' := g6.unhold hd5
        have hd6 : H6 D = some (.lst acc4) := g6.iv.2
        have gD6 := g6'.out gD5 hd5
        by_cases hb : b i e = true
        · rw [if_pos hb]
          refine he D (.lst acc4) nd i e hlt hle hb _ G6 H6 (s5.mono g6.gg) (g6.cn ch5) _ fun v G7 H7 g7 p => ?_
          have g7' := g7.unhold hd6
          obtain ⟨G8, acc8, g8, gD8, hd8, da8⟩ := cp_more c1 hD ((g05.trans g6').trans g7') (g7'.out gD6 hd6) (DpAll.mono ((g5.gg.trans g6.gg).trans g7.gg) da4) p
          refine ⟨acc4, g7.iv.2, by omega, G7, acc4 ++ [v], ?_, s34.trans ((g5.gg.trans g6.gg).trans g7.gg), g7'.out gD6 hd6, upd_same, ?_⟩
          · have gx := (g05.trans g6').trans g7'
            have gDx := g7'.out gD6 hd6
            refine ⟨gx.gg, fun a u q => ?_, gx.fr, fun a u z h => ?_, Md.upd gx.iv nd⟩
            · rw [upd_ne (ne_of_none q gDx)]; exact gx.gh a u q
            · rw [upd_ne (ne_of_none h hD)]; exact gx.r a u z h
          · rw [range_fm, if_pos hb, ← List.append_assoc]
            exact (DpAll.mono ((g5.gg.trans g6.gg).trans g7.gg) da4).append (.cons p .nil)
        · rw [if_neg hb]
          refine ⟨G6, acc4, g05.trans g6', s34.trans (g5.gg.trans g6.gg), gD6, hd6, ?_⟩
          rw [range_fm, if_neg hb, List.append_nil]
          exact DpAll.mono (g5.gg.trans g6.gg) da4
      · have ee : e = n1 i := by omega
        subst ee
        refine .inl ⟨W1.stops H4 (hG1 H4 (s34.trans g4.gh)), G4, acc4, g4, gD4, hd4, ?_⟩
        rw [List.range_succ, List.flatMap_append]
        simpa using da4
    · have e : i = n := by omega
      subst e
      obtain ⟨G', g', p⟩ := cp_done c1 hD ⟨G', acc, g', gD, hd, da⟩
      exact .inl ⟨W.stops H' (hG H' (g'.gg.trans g'.gh)), q _ G' H' (g.trans g') p⟩
end
end Nd

namespace Nd
open PySem L2 PyProof.Rows
section
variable {K : PySem.W.Frag} {m : Md} {E : XK} {δ : List (Option Pd)} {ta tb tc te : TE} {t u : TT} {P R S T : Pd} {t1 t2 : TS} {O : Ou}
theorem tyx_dp {G H : Hp} {v : V} {d : PyData} (h : Dp K G v d) (s : Same G H) : TyX K H v (.type (tyD d)) := by
  cases h with
  | non => exact .base .non
  | bl b => exact .base (.bl b)
  | int i => exact .base (.int i)
  | str x => exact .base (.str x)
  | lst h _ =>
    rcases h with (h | ⟨o, h⟩) | ⟨o, its, n, h1, h2, _⟩
    · exact .base (.lst (s _ _ h))
    · exact .base (.frz (s _ _ h))
    · exact .kList h1 h2
  | tup h _ =>
    rcases h with (h | ⟨o, h⟩) | ⟨o, its, n, h1, h2, _⟩
    · exact .base (.tup (s _ _ h))
    · exact .fTuple (s _ _ h)
    · exact .kTuple h1 h2
/-- is it an instance of the built-in class T -/
def isiD (T : String) (d : PyData) : Bool := (kitB (tyD d) T).getD false
theorem cb_isi {T : String} {d : PyData} (h : (kitB (tyD d) T).isSome = true) : CbD m (rIsi K) [dd K d, vv (.ty T)] (db K (isiD T d)) := fun vs G H c a Q q => by
  obtain ⟨v, w, rfl, p, r⟩ := all2_two a
  cases (show w = V.ty T from r)
  obtain ⟨b, hb⟩ := Option.isSome_iff_exists.mp h
  refine ⟨v, .ty T, .type (tyD d), .type T, b, rfl, .ty T, tyx_dp p c.gh, kit_ty hb, q _ G H (Go.refl c) ?_⟩
  show Dp K G (.bl b) (.bool (isiD T d))
  unfold isiD
  rw [hb]
  exact .bl _
theorem kit_int (d : PyData) : kitB (tyD d) "int" = some (match d with | .int _ => true | .bool _ => true | _ => false) := by cases d <;> dsimp only [tyD] <;> decide +kernel
theorem kit_bool (d : PyData) : kitB (tyD d) "bool" = some (match d with | .bool _ => true | _ => false) := by cases d <;> dsimp only [tyD] <;> decide +kernel
theorem kit_tuple (d : PyData) : kitB (tyD d) "tuple" = some (match d with | .tuple _ => true | _ => false) := by cases d <;> dsimp only [tyD] <;> decide +kernel
theorem kit_list (d : PyData) : kitB (tyD d) "list" = some (match d with | .list _ => true | _ => false) := by cases d <;> dsimp only [tyD] <;> decide +kernel
theorem kit_str (d : PyData) : kitB (tyD d) "str" = some (match d with | .str _ => true | _ => false) := by cases d <;> dsimp only [tyD] <;> decide +kernel
theorem cb_isiInt {d : PyData} : CbD m (rIsi K) [dd K d, vv (.ty "int")] (db K (match d with | .int _ => true | .bool _ => true | _ => false)) := by
  have h := cb_isi (m := m) (K := K) (T := "int") (d := d) (by rw [kit_int]; rfl)
  unfold isiD at h; rw [kit_int] at h; exact h
theorem cb_isiBool {d : PyData} : CbD m (rIsi K) [dd K d, vv (.ty "bool")] (db K (match d with | .bool _ => true | _ => false)) := by
  have h := cb_isi (m := m) (K := K) (T := "bool") (d := d) (by rw [kit_bool]; rfl)
  unfold isiD at h; rw [kit_bool] at h; exact h
theorem cb_isiTuple {d : PyData} : CbD m (rIsi K) [dd K d, vv (.ty "tuple")] (db K (match d with | .tuple _ => true | _ => false)) := by
  have h := cb_isi (m := m) (K := K) (T := "tuple") (d := d) (by rw [kit_tuple]; rfl)
  unfold isiD at h; rw [kit_tuple] at h; exact h
theorem cb_isiList {d : PyData} : CbD m (rIsi K) [dd K d, vv (.ty "list")] (db K (match d with | .list _ => true | _ => false)) := by
  have h := cb_isi (m := m) (K := K) (T := "list") (d := d) (by rw [kit_list]; rfl)
  unfold isiD at h; rw [kit_list] at h; exact h
theorem cb_isiStr {d : PyData} : CbD m (rIsi K) [dd K d, vv (.ty "str")] (db K (match d with | .str _ => true | _ => false)) := by
  have h := cb_isi (m := m) (K := K) (T := "str") (d := d) (by rw [kit_str]; rfl)
  unfold isiD at h; rw [kit_str] at h; exact h
/-- an integer that is no flag -/
def isInt : PyData → Bool
  | .int _ => true
  | _ => false
def Flds (G : Hp) (fs : List (Str × V)) (ps : List (Str × Pd)) : Prop := ∀ f : Str, match ps.lookup f with
  | some P => ∃ v, fs.lookup f = some v ∧ P.φ v G
  | none => fs.lookup f = none
theorem Flds.mono {G G' : Hp} {fs : List (Str × V)} {ps : List (Str × Pd)} (h : Flds G fs ps) (s : Same G G') : Flds G' fs ps := fun f => by
  have z := h f
  cases e : ps.lookup f with
  | none => rw [e] at z; exact z
  | some P =>
    rw [e] at z
    obtain ⟨v, a, b⟩ := z
    exact ⟨v, a, P.mono _ _ _ b s⟩
/-- an instance of the class at C whose fields are so described -/
def obj (C : Addr) (ps : List (Str × Pd)) : Pd := ⟨fun v G => ∃ a dx fs, v = .ref a ∧ G a = some (.ins C dx fs) ∧ Flds G fs ps, fun _ _ _ ⟨a, dx, fs, e, h, f⟩ s => ⟨a, dx, fs, e, s _ _ h, f.mono s⟩⟩
theorem ev_fld {C : Addr} {ps : List (Str × Pd)} {f : Str} (h : EvD m ta δ (obj C ps)) (hc : Cls K C) (hn : NoAttr K C f) (hl : ps.lookup f = some P) : EvD m (tFld K ta f) δ P := fun σ G H s c Q q =>
  h σ G H s c _ fun v G1 H1 g ⟨a, dx, fs, e, ho, fl⟩ => by
    have z := fl f
    rw [hl] at z
    obtain ⟨w, l, p⟩ := z
    exact ⟨a, C, dx, fs, w, e, (g.cn c).gh _ _ ho, hc, hn, l, q w G1 H1 g p⟩
theorem ev_meth {F : Md → List Pd → Oc → Prop} {C : Addr} {ps : List (Str × Pd)} {mn : Str} {tA : TA} {Ps : List Pd} (h : EvD m ta δ (obj C ps)) (hl : ps.lookup mn = none) (ha : EvA m tA δ Ps) (hf : F m (obj C ps :: Ps) (.ret S)) :
    EvD m (tMeth C mn (spF F) [] E ta tA) δ S := fun σ G H s c Q q =>
  h σ G H s c _ fun v G1 H1 g p => by
    obtain ⟨a, dx, fs, e, ho, fl⟩ := p
    have z := fl mn
    rw [hl] at z
    refine ⟨a, dx, fs, e, (g.cn c).gh _ _ ho, z, ?_⟩
    refine ha σ G1 H1 (s.mono g.gg) (g.cn c) _ fun vs G2 H2 g2 p2 => ?_
    rw [List.append_nil]
    exact ⟨m, G2, obj C ps :: Ps, .ret S, hf, g2.cn (g.cn c), .cons ((obj C ps).mono _ _ _ ⟨a, dx, fs, e, ho, fl⟩ g2.gg) p2, fun w G3 H3 g3 p3 => q w G3 H3 ((g.trans g2).trans g3) p3⟩
def Md.opn (m : Md) (D : Addr) : Md where
  chg := fun a => m.chg a ∨ a = D
  dep := fun a => m.dep a ∨ a = D
  inv := fun H => m.inv H ∧ ∃ o, H D = some o
  sub := fun a h => h.imp (m.sub a) id
  mono := fun H H' h k => ⟨m.mono H H' h.1 fun a o d => k a o (.inl d), let ⟨o, e⟩ := h.2; ⟨o, k D o (.inr rfl) e⟩⟩
  has := fun H a h d => d.elim (fun z => m.has H a h.1 z) fun z => let ⟨o, e⟩ := h.2; ⟨o, by rw [z]; exact e⟩
theorem Go.opn {G H G' H' : Hp} {D : Addr} {o : HO} (t : Go (m.hold D o) G H G' H') : Go (m.opn D) G H G' H' := ⟨t.gg, t.gh, t.fr, t.r, t.iv.1, o, t.iv.2⟩
theorem Go.openOf {G H G' H' : Hp} {D : Addr} {o : HO} (t : Go m G H G' H') (h : H D = some o) (n : ¬ m.chg D) : Go (m.opn D) G H G' H' := ⟨t.gg, t.gh, t.fr, fun a u e => t.r a u fun z => e (.inl z), t.iv, o, t.r D o n h⟩
/-- the state within __init__: the instance at a, its fields so far -/
structure Cn1 (m : Md) (C a dx : Addr) (G H : Hp) (ps : List (Str × Pd)) : Prop where
  cn : Cn m G H
  nd : ¬ m.dep a
  ga : G a = none
  ob : ∃ fs, H a = some (.ins C dx fs) ∧ fs.length = ps.length ∧ Flds G fs ps
def putP (f : Str) (P : Pd) : List (Str × Pd) → List (Str × Pd)
  | [] => [(f, P)]
  | (g, x) :: r => if g = f then (g, P) :: r else (g, x) :: putP f P r
theorem lookup_putP (f g : Str) (P : Pd) : ∀ ps : List (Str × Pd), (putP f P ps).lookup g = if g = f then some P else ps.lookup g
  | [] => by
    show List.lookup g [(f, P)] = _
    by_cases h : g = f
    · subst h; simp [List.lookup]
    · have : (g == f) = false := by simpa using h
      simp [List.lookup, this, h]
  | (k, x) :: r => by
    unfold putP
    by_cases hk : k = f
    · subst hk
      rw [if_pos rfl]
      by_cases h : g = k
      · subst h; simp [List.lookup]
      · have : (g == k) = false := by simpa using h
        simp [List.lookup, this, h]
    · rw [if_neg hk]
      by_cases h : g = k
      · subst h
        simp [List.lookup, hk]
      · have e : (g == k) = false := by simpa using h
        have ih := lookup_putP f g P r
        simp only [List.lookup, e]
        exact ih
theorem Flds.put {G : Hp} {fs : List (Str × V)} {ps : List (Str × Pd)} {f : Str} {v : V} {P : Pd} (h : Flds G fs ps) (p : P.φ v G) : Flds G (putF f v fs) (putP f P ps) := fun g => by
  rw [lookup_putP, lookup_putF]
  by_cases e : g = f
  · rw [if_pos e, if_pos e]; exact ⟨v, rfl, p⟩
  · rw [if_neg e, if_neg e]; exact h g
theorem putF_len (f : Str) (v : V) : ∀ fs : List (Str × V), (putF f v fs).length ≤ fs.length + 1
  | [] => by simp [putF]
  | (g, x) :: r => by
    unfold putF
    by_cases e : g = f
    · rw [if_pos e]; simp
    · rw [if_neg e]
      have := putF_len f v r
      simp only [List.length_cons]
      omega
/-- a block of __init__: from the fields ps to the fields of fin; or an error of X -/
def In (m : Md) (C a dx : Addr) (E : XK) (ts : TS) (δ : List (Option Pd)) (ps fin : List (Str × Pd)) (X : Addr → Pd → Prop) : Prop :=
  ∀ (σ : L2.St) (G H : Hp) (D : Ends), Sl G σ δ → Cn1 m C a dx G H ps → (∀ σ' G' H', Go (m.opn a) G H G' H' → Cn1 m C a dx G' H' fin → D.nx σ' H') →
    (∀ Ce P d v G' H', X Ce P → Go (m.opn a) G H G' H' → H' d = some (.xd [(("what" : Str), v)]) → P.φ v G' → E (.ref Ce) (some d) H') → ts D σ H
theorem Cn1.hold {C a dx : Addr} {G H : Hp} {ps : List (Str × Pd)} (c : Cn1 m C a dx G H ps) : ∃ fs, H a = some (.ins C dx fs) ∧ fs.length = ps.length ∧ Flds G fs ps ∧ Cn (m.hold a (.ins C dx fs)) G H := by
  obtain ⟨fs, e, l, f⟩ := c.ob
  exact ⟨fs, e, l, f, c.cn.hold e c.ga⟩
theorem Cn1.go {C a dx : Addr} {G H G' H' : Hp} {ps : List (Str × Pd)} {fs : List (Str × V)} (c : Cn1 m C a dx G H ps) (e : H a = some (.ins C dx fs)) (l : fs.length = ps.length) (f : Flds G fs ps) (g : Go (m.hold a (.ins C dx fs)) G H G' H') : Cn1 m C a dx G' H' ps :=
  ⟨(g.unhold e).cn c.cn, c.nd, (g.unhold e).out c.ga e, fs, g.iv.2, l, f.mono g.gg⟩
/-- self.f = e; rest -/
theorem in_fld {C a dx : Addr} {f : Str} {ps fin : List (Str × Pd)} {X : Addr → Pd → Prop} (h0 : δ[0]? = some (some (vv (.ref a)))) (hc : Cls K C) (hn : NoAttr K C f) (hl : ps.length < 500) (hnew : ps.lookup f = none) (h : ∀ fs, EvD (m.hold a (.ins C dx fs)) te δ P)
    (k : In m C a dx E t2 δ (ps ++ [(f, P)]) fin X) : In m C a dx E (tSeq (sFld K (tVar 0) te f) t2) δ ps fin X := fun σ G H D s c kn ke => by
  obtain ⟨fs, e, l, fl, ch⟩ := c.hold
  refine h fs σ G H s ch _ fun y G1 H1 g p => ?_
  have c1 := c.go e l fl g
  obtain ⟨v0, hv0, ev0⟩ := s.2 0 _ h0
  cases (show v0 = V.ref a from ev0)
  have e1 : H1 a = some (.ins C dx fs) := g.iv.2
  refine ⟨_, hv0, a, C, dx, fs, rfl, e1, hc, hn, by omega, ?_⟩
  have gg : Go (m.opn a) G H G1 (upd H1 a (.ins C dx (putF f y fs))) := by
    refine ⟨g.gg, fun b u q => ?_, g.fr, fun b u z q => ?_, Md.upd c1.cn.iv c.nd, _, upd_same⟩
    · rw [upd_ne (ne_of_none q c1.ga)]; exact g.gh b u q
    · rw [upd_ne (fun w => z (.inr w))]; exact g.r b u z q
  have newF : fs.lookup f = none := by
    have z := fl f
    rw [hnew] at z; exact z
  have e2 : putF f y fs = fs ++ [(f, y)] := by
    have aux : ∀ l : List (Str × V), l.lookup f = none → putF f y l = l ++ [(f, y)] := by
      intro l
      induction l with
      | nil => intro _; rfl
      | cons q r ih =>
        obtain ⟨k, x⟩ := q
        intro z
        by_cases w : f = k
        · subst w; simp [List.lookup] at z
        · have w' : (f == k) = false := by simpa using w
          simp only [List.lookup, w'] at z
          unfold putF
          rw [if_neg (Ne.symm w), ih z]
          rfl
    exact aux fs newF
  refine k σ G1 _ D (s.mono g.gg) ⟨⟨gg.gh, gg.iv.1, c1.cn.nm⟩, c.nd, c1.ga, putF f y fs, upd_same, ?_, ?_⟩ (fun σ' G' H' g' => kn σ' G' H' (gg.trans g')) (fun Ce P d v G' H' x g' => ke Ce P d v G' H' x (gg.trans g'))
  · rw [e2, List.length_append, List.length_append, l]; rfl
  · intro f'
    rw [lookup_putF]
    have lk : (ps ++ [(f, P)]).lookup f' = if f' = f then some P else ps.lookup f' := by
      have aux : ∀ l : List (Str × Pd), l.lookup f = none → (l ++ [(f, P)]).lookup f' = if f' = f then some P else l.lookup f' := by
        intro l
        induction l with
        | nil =>
          intro _
          by_cases w : f' = f
          · subst w; simp [List.lookup]
          · have w' : (f' == f) = false := by simpa using w
            simp [List.lookup, w', w]
        | cons q r ih =>
          obtain ⟨k, x⟩ := q
          intro z
          by_cases w : f = k
          · subst w; simp [List.lookup] at z
          · have w' : (f == k) = false := by simpa using w
            simp only [List.lookup, w'] at z
            have ih := ih z
            by_cases v : f' = k
            · subst v
              have w2 : ¬ f' = f := fun q => w q.symm
              simp [List.lookup, w2]
            · have v' : (f' == k) = false := by simpa using v
              simp only [List.cons_append, List.lookup, v']
              exact ih
      exact aux ps hnew
    rw [lk]
    by_cases w : f' = f
    · rw [if_pos w, if_pos w]; exact ⟨y, rfl, p⟩
    · rw [if_neg w, if_neg w]; exact (fl.mono g.gg) f'
theorem in_done {C a dx : Addr} {ps : List (Str × Pd)} {X : Addr → Pd → Prop} : In m C a dx E tNext δ ps ps X := fun σ G H D s c kn ke => by
  obtain ⟨fs, e, l, fl, ch⟩ := c.hold
  exact kn σ G H (Go.opn (Go.refl ch)) c
theorem in_fld1 {C a dx : Addr} {f : Str} {ps : List (Str × Pd)} {X : Addr → Pd → Prop} (h0 : δ[0]? = some (some (vv (.ref a)))) (hc : Cls K C) (hn : NoAttr K C f) (hl : ps.length < 500) (hnew : ps.lookup f = none) (h : ∀ fs, EvD (m.hold a (.ins C dx fs)) te δ P) :
    In m C a dx E (sFld K (tVar 0) te f) δ ps (ps ++ [(f, P)]) X := fun σ G H D s c kn ke =>
  in_fld (t2 := tNext) h0 hc hn hl hnew h in_done σ G H D s c kn ke
/-- if t: ..; rest, t not met -/
theorem in_ifN {C a dx : Addr} {ps fin : List (Str × Pd)} {X : Addr → Pd → Prop} (h : ∀ fs, EvB (m.hold a (.ins C dx fs)) t δ false) (k : In m C a dx E t2 δ ps fin X) : In m C a dx E (tSeq (tIfS t t1 tNext) t2) δ ps fin X := fun σ G H D s c kn ke => by
  obtain ⟨fs, e, l, fl, ch⟩ := c.hold
  refine h fs σ G H s ch _ fun G1 H1 g => ?_
  rw [if_neg Bool.false_ne_true]
  exact k σ G1 H1 D (s.mono g.gg) (c.go e l fl g) (fun σ' G' H' g' => kn σ' G' H' ((Go.opn g).trans g')) (fun Ce P d v G' H' x g' => ke Ce P d v G' H' x ((Go.opn g).trans g'))
/-- x = e; rest -/
theorem in_set {C a dx : Addr} {i : Nat} {ps fin : List (Str × Pd)} {X : Addr → Pd → Prop} (h : ∀ fs, EvD (m.hold a (.ins C dx fs)) te δ P) (k : In m C a dx E t2 (δ.set i (some P)) ps fin X) : In m C a dx E (tSeq (tAsg te (gName i)) t2) δ ps fin X := fun σ G H D s c kn ke => by
  obtain ⟨fs, e, l, fl, ch⟩ := c.hold
  refine h fs σ G H s ch _ fun v G1 H1 g p => ?_
  exact k _ G1 H1 D ((s.mono g.gg).set p) (c.go e l fl g) (fun σ' G' H' g' => kn σ' G' H' ((Go.opn g).trans g')) (fun Ce P d v G' H' x g' => ke Ce P d v G' H' x ((Go.opn g).trans g'))
inductive Oi where
  | ret (ps : List (Str × Pd))
  | exc (C : Addr) (P : Pd)
def Oi.to (m : Md) (C a dx : Addr) (G H : Hp) (Q : VK) (E : XK) : Oi → Prop
  | .ret ps => ∀ G' H', Go (m.opn a) G H G' H' → Cn1 m C a dx G' H' ps → Q .non H'
  | .exc Ce P => ∀ d v G' H', Go (m.opn a) G H G' H' → H' d = some (.xd [(("what" : Str), v)]) → P.φ v G' → E (.ref Ce) (some d) H'
/-- __init__'s promise -/
def spI (C : Addr) (F : Md → List Pd → Oi → Prop) : Sp := fun vs H Q E => ∃ (m : Md) (G : Hp) (a dx : Addr) (ws : List V) (Ps : List Pd) (O : Oi), vs = .ref a :: ws ∧ F m Ps O ∧ Cn1 m C a dx G H [] ∧ All2 G ws Ps ∧ O.to m C a dx G H Q E
theorem mk_raw {F : Md → List Pd → Oi → Prop} {C : Addr} {Ps : List Pd} {ps : List (Str × Pd)} {vs : List V} {G1 H1 : Hp} {Q : VK} (c1 : Cn m G1 H1) (p : All2 G1 vs Ps) (hf : F m Ps (.ret ps)) (q : ∀ v G' H', Go m G1 H1 G' H' → (obj C ps).φ v G' → Q v H')
    (x dx : Addr) (hx : H1 x = none) (hdx : H1 dx = none) (hne : dx ≠ x) : spI C F (.ref x :: (vs ++ [])) (upd (upd H1 dx (.own x)) x (.ins C dx [])) (fun v H2 => v = .non ∧ Q (.ref x) H2) E := by
    have s2 : Same H1 (upd (upd H1 dx (.own x)) x (.ins C dx [])) := fun b o e => by
      rw [upd_ne (ne_of_none e hx), upd_ne (ne_of_none e hdx)]; exact e
    have g1x : G1 x = none := by
      cases z : G1 x with
      | none => rfl
      | some o => rw [c1.gh x o z] at hx; cases hx
    rw [List.append_nil]
    refine ⟨m, G1, x, dx, vs, Ps, .ret ps, rfl, hf, ⟨⟨c1.gh.trans s2, Md.same c1.iv s2, c1.nm⟩, Md.fresh c1.iv hx, g1x, [], upd_same, rfl, fun f => rfl⟩, p, fun G' H' g' c' => ⟨rfl, ?_⟩⟩
    obtain ⟨fs, e, l, fl⟩ := c'.ob
    have sG : Same G' (upd G' x (.ins C dx fs)) := fun b o z => by rw [upd_ne (ne_of_none z c'.ga)]; exact z
    refine q (.ref x) (upd G' x (.ins C dx fs)) H' ⟨g'.gg.trans sG, fun b o z => ?_, fun b o z n => ?_, fun b o z n => ?_, c'.cn.iv⟩ ⟨x, dx, fs, rfl, upd_same, fl.mono sG⟩
    · by_cases w : b = x
      · subst w; rw [upd_same] at z; cases z; exact e
      · rw [upd_ne w] at z; exact g'.gh b o z
    · by_cases w : b = x
      · subst w; exact hx
      · rw [upd_ne w] at z
        have h2 := g'.fr b o z n
        cases k : H1 b with
        | none => rfl
        | some o' => rw [s2 b o' k] at h2; cases h2
    · exact g'.r b o (fun k => k.elim z (ne_of_none n hx)) (s2 b o n)
theorem ev_make {F : Md → List Pd → Oi → Prop} {C : Addr} {tA : TA} {Ps : List Pd} {ps : List (Str × Pd)} (ha : EvA m tA δ Ps) (hf : F m Ps (.ret ps)) : EvD m (tMake C (spI C F) [] E tA) δ (obj C ps) := fun σ G H s c Q q =>
  ha σ G H s c _ fun vs G1 H1 g p x dx hx hdx hne => mk_raw (g.cn c) p hf (fun v G' H' g' p' => q v G' H' (g.trans g') p') x dx hx hdx hne
theorem sl_start {G : Hp} {N : List Str} {vs : List V} {Ps : List Pd} (h : All2 G vs Ps) : Sl G (L2.start N vs) (Ps.map some ++ List.replicate (N.length - Ps.length) none) := by
  have hl := h.length
  refine ⟨by unfold L2.start; simp [hl], fun i P e => ?_⟩
  have key : ∀ {vs : List V} {Ps : List Pd} {i : Nat} {rest : List (Option V)} {rest' : List (Option Pd)}, All2 G vs Ps → (∀ (j : Nat) (P : Pd), rest'[j]? ≠ some (some P)) → (Ps.map some ++ rest')[i]? = some (some P) → ∃ v, (vs.map some ++ rest)[i]? = some (some v) ∧ P.φ v G := by
    intro vs Ps i rest rest' h hn e
    induction h generalizing i with
    | nil => exact absurd e (hn i P)
    | cons h1 t ih =>
      cases i with
      | zero => simp at e; subst e; exact ⟨_, rfl, h1⟩
      | succ i => exact ih (i := i) (by simpa using e)
  unfold L2.start
  refine key h (fun j P e => ?_) e
  rw [List.getElem?_replicate] at e
  split at e <;> cases e
theorem fn_ok {P : Program} {w : World} {mg : Str → Option Value} {base : Heap} {CX : CXT} {x qual : Str} {params : Arguments} {body : List Stmt} {scope : Scope} {dvs : List V} {kws : List (Str × V)} {f : Addr} {fd : FuncData} {N ps : List Str} {k : Nat}
    {F : Md → List Pd → Oc → Prop} (Fn : FunD K x qual params body scope dvs kws f fd) (Sc : FnScope N ps scope) (hlen : ∀ m Ps O, F m Ps O → Ps.length = ps.length)
    (hb : ∀ (cdv : Value) (A : Around) (outer : List Env) (s : Shared) (H : Hp) (E : XK), Room k (A.deeper (envOfC qual scope s.heap.objs.size f cdv)) →
      ∃ t, PSs (cxOf CX P w K mg base N qual scope f cdv A outer s H E) body t ∧
        ∀ m Ps O, F m Ps O → Bl m E t (Ps.map some ++ List.replicate (N.length - Ps.length) none) (match O with | .ret S => { nx := fun _ => ∀ G, S.φ .non G, rt := fun R => R = S } | .exc C P => { ex := fun C' P' => C' = C ∧ P' = P })) :
    FnOk P w K mg base CX (k + 1) f fd ps (spF F) := by
  refine Fn.ok Sc (fun vs H Q E h => ?_) (fun cdv A outer s H vs Q E hr h => ?_)
  · obtain ⟨m, G, Ps, O, hf, c, a, _⟩ := h
    rw [a.length, hlen m Ps O hf]
  · obtain ⟨t, pt, bl⟩ := hb cdv A outer s H E hr
    refine ⟨t, pt, ?_⟩
    obtain ⟨m, G, Ps, O, hf, c, a, q⟩ := h
    have b := bl m Ps O hf
    have st := sl_start (N := N) a
    cases O with
    | ret S =>
      refine b _ G H _ st c ⟨fun δ' σ' G' H' hn g s' => q .non G' H' g (hn G'), fun S' v G' H' e g p => q v G' H' g (by cases e; exact p), fun _ _ _ _ z => z.elim, fun _ _ _ _ z => z.elim, fun _ _ _ _ _ _ z => z.elim⟩
    | exc C P =>
      exact b _ G H _ st c ⟨fun _ _ _ _ z => z.elim, fun _ _ _ _ z => z.elim, fun _ _ _ _ z => z.elim, fun _ _ _ _ z => z.elim, fun C' P' d v G' H' z g e p => by obtain ⟨rfl, rfl⟩ := z; exact q d v G' H' g e p⟩
theorem init_ok {P : Program} {w : World} {mg : Str → Option Value} {base : Heap} {CX : CXT} {x qual : Str} {params : Arguments} {body : List Stmt} {scope : Scope} {dvs : List V} {kws : List (Str × V)} {f C : Addr} {fd : FuncData} {N ps : List Str} {k : Nat}
    {F : Md → List Pd → Oi → Prop} (Fn : FunD K x qual params body scope dvs kws f fd) (Sc : FnScope N ps scope) (hlen : ∀ m Ps O, F m Ps O → Ps.length + 1 = ps.length)
    (hb : ∀ (cdv : Value) (A : Around) (outer : List Env) (s : Shared) (H : Hp) (E : XK), Room k (A.deeper (envOfC qual scope s.heap.objs.size f cdv)) →
      ∃ t, PSs (cxOf CX P w K mg base N qual scope f cdv A outer s H E) body t ∧
        ∀ m Ps O a dx, F m Ps O → (match O with | .ret fin => In m C a dx E t (some (vv (.ref a)) :: (Ps.map some ++ List.replicate (N.length - (Ps.length + 1)) none)) [] fin (fun _ _ => False) | .exc Ce Pe => In m C a dx E t (some (vv (.ref a)) :: (Ps.map some ++ List.replicate (N.length - (Ps.length + 1)) none)) [] [] (fun C' P' => C' = Ce ∧ P' = Pe) ∧ False)) :
    FnOk P w K mg base CX (k + 1) f fd ps (spI C F) := by
  refine Fn.ok Sc (fun vs H Q E h => ?_) (fun cdv A outer s H vs Q E hr h => ?_)
  · obtain ⟨m, G, a, dx, ws, Ps, O, rfl, hf, c, al, _⟩ := h
    rw [List.length_cons, al.length, hlen m Ps O hf]
  · obtain ⟨t, pt, bl⟩ := hb cdv A outer s H E hr
    refine ⟨t, pt, ?_⟩
    obtain ⟨m, G, a, dx, ws, Ps, O, rfl, hf, c, al, q⟩ := h
    have b := bl m Ps O a dx hf
    have st := sl_start (N := N) (All2.cons (P := vv (.ref a)) (rfl : V.ref a = V.ref a) al)
    cases O with
    | ret fin => exact b _ G H _ st c (fun σ' G' H' g c' => q G' H' g c') (fun _ _ _ _ _ _ z => z.elim)
    | exc Ce Pe => exact b.2.elim
end
end Nd

namespace L2
open PySem PySem.Spec PyProof.Rows
theorem vals_range : ∀ (us : List Value) (f : Nat → V), (∀ (j : Nat) (u : Value), us[j]? = some u → RelV (f j) u) → Vals ((List.range us.length).map f) us
  | [], f, _ => .nil
  | u :: us, f, h => by
    rw [List.length_cons, List.range_succ_eq_map, List.map_cons, List.map_map]
    exact .cons (h 0 u rfl) (vals_range us (f ∘ Nat.succ) fun j v e => h (j + 1) v (by simpa using e))
section
variable {X : Cx}
/-- range(n) as a value -/
theorem cr_range1 : CallR X (.type "range") (fun vs H Q => ∃ j, vs = [V.int j] ∧ ∀ p, H p = none → Q (.ref p) (upd H p (.rng 0 j))) := by
  intro pins s σ H vs us Q I r h
  obtain ⟨j, rfl, q⟩ := h
  obtain ⟨u1, rfl, rj⟩ := vals1 r
  obtain ⟨u, rfl⟩ := rj
  refine call_range_1 ⟨.ref s.heap.objs.size, upd H s.heap.objs.size (.rng 0 j), I.laid (t' := s.toks + 1 + 1) (fun b o e => Heap.get?_push_of_some _ e) (Nat.le_refl _) ?_, rfl, q _ (I.hok.fresh (Nat.le_refl _))⟩
  exact ⟨_, _, _, Heap.get?_push_size _ rfl⟩
/-- list(range object) -/
theorem cr_listRng (hc : X.calm = true) : CallR X (.type "list") (fun vs H Q => ∃ a lo hi, vs = [V.ref a] ∧ H a = some (.rng lo hi) ∧ -(2 ^ 40) ≤ lo ∧ lo ≤ 2 ^ 40 ∧ -(2 ^ 40) ≤ hi ∧ hi ≤ 2 ^ 40 ∧ (hi - lo) ≤ 1000000 ∧
    ∀ p, H p = none → Q (.ref p) (upd H p (.lst (((List.range (hi - lo).toNat).map fun (i : Nat) => lo + (i : Int)).map V.int)))) := by
  intro pins s σ H vs us Q I r h
  obtain ⟨a, lo, hi, rfl, ha, h1, h2, h3, h4, h5, q⟩ := h
  obtain ⟨u1, rfl, ra⟩ := vals1 r
  cases ra
  obtain ⟨t, u, v, hr⟩ := (show ObjOk X.prog X.w H s.heap a (.rng lo hi) from I.hok a _ ha)
  have hs : Builtin.Range.small lo hi 1 = true := by
    first
      | exact small_one (by omega) (by omega) (by omega) (by omega)
      | (unfold Builtin.Range.small; simp; omega)
  have hn : Builtin.Range.rangeSize lo hi 1 = ((hi - lo).toNat : Int) := by
    rw [rangeSize_one]
    split <;> omega
  refine call_list_range (n := (hi - lo).toNat) (I.ok.hd hc) hr hs hn (by omega) fun h' tk acc c kp hS hacc => ?_
  obtain ⟨hsz, hit⟩ := hacc
  have hl : acc.toList.length = (hi - lo).toNat := by rw [Array.length_toList]; exact hsz
  have hv : Vals (((List.range (hi - lo).toNat).map fun (i : Nat) => lo + (i : Int)).map V.int) acc.toList := by
    rw [List.map_map, ← hl]
    refine vals_range acc.toList _ fun j v e => ?_
    obtain ⟨t, rfl⟩ := hit j v (by simpa using e)
    exact ⟨t, by simp⟩
  have big : (2000000 : Nat) < sizeLine := by decide
  refine ⟨.ref s.heap.objs.size, _, I.laid (t' := tk) (o := .lst (((List.range (hi - lo).toNat).map fun (i : Nat) => lo + (i : Int)).map V.int)) kp (Nat.le_refl _) ⟨?_, acc.toList, c, hv, by simpa using hS⟩, rfl, q _ (I.hok.fresh (Nat.le_refl _))⟩
  rw [hv.length, hl]
  omega
/-- max of a tuple of ints -/
theorem cr_maxT (hc : X.calm = true) : CallR X (.builtin "max") (fun vs H Q => ∃ (a : Addr) (ns : List Int), vs = [V.ref a] ∧ SqT X.K H a (ns.map V.int) ∧ 0 < ns.length ∧ ∀ m, m ∈ ns → (∀ y, y ∈ ns → y ≤ m) → Q (.int m) H) := by
  intro pins s σ H vs us Q I r h
  obtain ⟨a, ns, rfl, ha, hne, q⟩ := h
  obtain ⟨u1, rfl, ra⟩ := vals1 r
  cases ra
  obtain ⟨its, rv, p, _⟩ := I.tuple ha
  have hi : IntsAre its ns := rv.ints
  obtain ⟨xs, e⟩ := hi.allInts.items
  have hn : numsOf (intItems xs).toList = ns := by rw [← e]; exact hi.numsOf
  rw [nums_intItems] at hn
  subst hn
  have hsz : 0 < xs.size := by simpa using hne
  have hT : s.heap.IsTuple a (intItems xs) := by rw [← e]; exact p
  have hlt : a < s.heap.objs.size := by obtain ⟨_, e, _⟩ := hT; exact Heap.lt_size e
  refine call_max_walk (wpAny_pyIter_tuple hT ?_)
  refine ⟨_, [_, a], [_], _, _, _, _, rfl, Walks.tuple (A := X.A.in1) (I.ok.hd hc) _ a (Nat.ne_of_lt hlt) (intItems xs), ⟨⟨_, Heap.get?_push_size _ rfl, rfl, rfl⟩, hT.push _⟩, fun c hc => ?_, by simpa [intItems] using hsz, CmpOf.ints_gt (numAt xs) (fun _ _ => intItems_at), fun v h' tk hP hk => ?_⟩
  · show c < (s.heap.push _).objs.size
    rw [Heap.size_push]
    rcases List.mem_cons.mp hc with rfl | hc
    · exact Nat.lt_succ_self _
    · rcases List.mem_cons.mp hc with rfl | hc
      · exact Nat.lt_succ_of_lt hlt
      · cases hc
  · have hold : ∀ c o, s.heap.get? c = some o → h'.get? c = some o := fun c o e => by
      refine hk c o (fun hm => ?_) (Heap.get?_push_of_some _ e)
      rcases List.mem_cons.mp hm with e1 | hm
      · exact absurd (e1 ▸ Heap.lt_size e) (Nat.lt_irrefl _)
      · cases hm
    obtain ⟨t, rfl⟩ := intItems_at hP
    obtain ⟨h1, h2⟩ := argBest_gt (numAt xs) (xs.size - 1)
    have es : (intItems xs).size - 1 = xs.size - 1 := by simp [intItems]
    rw [es]
    refine ⟨.int _, H, I.kept (t' := tk) hold, ⟨t, rfl⟩, q _ ?_ fun y hy => ?_⟩
    · rw [numAt_eq]; exact PySem.getD_mem (by rw [List.length_map, Array.length_toList]; omega)
    · obtain ⟨j, hj, rfl⟩ := mem_getD hy
      rw [List.length_map, Array.length_toList] at hj
      rw [← numAt_eq]; exact h2 j (by omega)
end
end L2

namespace Nd
open PySem L2 PyProof.Rows
section
variable {K : PySem.W.Frag} {m : Md} {E : XK} {δ : List (Option Pd)} {ta tb tc te : TE} {t u : TT} {P R S T : Pd} {t1 t2 : TS} {O : Ou}
def dl (K : PySem.W.Frag) (ds : List PyData) : Pd := ⟨fun v G => ∃ a vs, v = .ref a ∧ G a = some (.lst vs) ∧ DpAll K G vs ds, fun _ _ _ ⟨a, vs, e, h, d⟩ s => ⟨a, vs, e, s _ _ h, DpAll.mono s d⟩⟩
theorem dl_dd {ds : List PyData} {v : V} {G : Hp} (h : (dl K ds).φ v G) : Dp K G v (.list ds) := by
  obtain ⟨a, vs, rfl, h, d⟩ := h
  exact .lst (.inl (.inl h)) d
theorem EvD.l2d {ds : List PyData} (h : EvD m te δ (dl K ds)) : EvD m te δ (dd K (.list ds)) := h.to fun v G p => dl_dd p
theorem ev_lstL {ta : TA} {ds : List PyData} (h : EvA m ta δ (ds.map (dd K))) (hl : ds.length ≤ 100000) : EvD m (tLst ta) δ (dl K ds) := fun σ G H s c Q q =>
  h σ G H s c _ fun vs G1 H1 t1 p1 => by
    have d1 := all2_dp p1
    refine ⟨Nat.le_trans (by rw [d1.length]; exact hl) (by decide), fun p hp => ?_⟩
    have t2 := Go.new (o := .lst vs) (t1.cn c) hp
    exact q _ _ _ (t1.trans t2) ⟨p, vs, rfl, upd_same, DpAll.mono t2.gg d1⟩
theorem cb_listTL {ds : List PyData} : CbD m (fun xs H Q => ∃ p ys, xs = [V.ref p] ∧ (SqL K H p ys ∨ SqT K H p ys) ∧ ∀ l, H l = none → Q (.ref l) (upd H l (.lst ys))) [dd K (.tuple ds)] (dl K ds) := fun vs G H c a Q q => by
  obtain ⟨v, rfl, p⟩ := all2_one a
  cases p with
  | @tup b xs _ e d => exact ⟨b, xs, rfl, .inr (SqT.mono e c.gh), fun l hl => q _ _ _ (Go.new c hl) ⟨l, xs, rfl, upd_same, DpAll.mono (Go.new (o := .lst xs) c hl).gg d⟩⟩
theorem cb_listLL {ds : List PyData} : CbD m (fun xs H Q => ∃ p ys, xs = [V.ref p] ∧ (SqL K H p ys ∨ SqT K H p ys) ∧ ∀ l, H l = none → Q (.ref l) (upd H l (.lst ys))) [dd K (.list ds)] (dl K ds) := fun vs G H c a Q q => by
  obtain ⟨v, rfl, p⟩ := all2_one a
  cases p with
  | @lst b xs _ e d => exact ⟨b, xs, rfl, .inl (SqL.mono e c.gh), fun l hl => q _ _ _ (Go.new c hl) ⟨l, xs, rfl, upd_same, DpAll.mono (Go.new (o := .lst xs) c hl).gg d⟩⟩
theorem ev_catL {xs ys : List PyData} (ha : EvD m ta δ (dl K xs)) (hb : EvD m tb δ (dl K ys)) (hl : xs.length + ys.length ≤ 100000) : EvD m (tOp rCat ta tb) δ (dl K (xs ++ ys)) := ev_op ha hb fun x y G H c px py Q q => by
  obtain ⟨a, vs, rfl, h1, d1⟩ := px
  obtain ⟨b, ws, rfl, h2, d2⟩ := py
  refine ⟨a, b, vs, ws, rfl, rfl, c.gh _ _ h1, c.gh _ _ h2, Nat.le_trans (by rw [d1.length, d2.length]; exact hl) (by decide), fun p hp => ?_⟩
  have t2 := Go.new (o := .lst (vs ++ ws)) c hp
  exact q _ _ _ t2 ⟨p, _, rfl, upd_same, DpAll.mono t2.gg (d1.append d2)⟩
/-- list(range(n)) -/
def rngD (K : PySem.W.Frag) (lo hi : Int) : Pd := ⟨fun v G => ∃ a, v = .ref a ∧ G a = some (.rng lo hi), fun _ _ _ ⟨a, e, h⟩ s => ⟨a, e, s _ _ h⟩⟩
theorem cb_rng1 {n : Int} : CbD m (fun vs H Q => ∃ j, vs = [V.int j] ∧ ∀ p, H p = none → Q (.ref p) (upd H p (.rng 0 j))) [di K n] (rngD K 0 n) := fun vs G H c a Q q => by
  obtain ⟨v, rfl, p⟩ := all2_one a
  cases p
  exact ⟨n, rfl, fun p hp => q _ _ _ (Go.new c hp) ⟨p, rfl, upd_same⟩⟩
theorem cb_listRng {lo hi : Int} (h1 : -(2 ^ 40) ≤ lo) (h2 : lo ≤ 2 ^ 40) (h3 : -(2 ^ 40) ≤ hi) (h4 : hi ≤ 2 ^ 40) (h5 : hi - lo ≤ 1000000) :
    CbD m (fun vs H Q => ∃ a lo hi, vs = [V.ref a] ∧ H a = some (.rng lo hi) ∧ -(2 ^ 40) ≤ lo ∧ lo ≤ 2 ^ 40 ∧ -(2 ^ 40) ≤ hi ∧ hi ≤ 2 ^ 40 ∧ (hi - lo) ≤ 1000000 ∧
      ∀ p, H p = none → Q (.ref p) (upd H p (.lst (((List.range (hi - lo).toNat).map fun (i : Nat) => lo + (i : Int)).map V.int)))) [rngD K lo hi] (dl K (((List.range (hi - lo).toNat).map fun (i : Nat) => lo + (i : Int)).map PyData.int)) := fun vs G H c a Q q => by
  obtain ⟨v, rfl, b, rfl, hb⟩ := all2_one a
  refine ⟨b, lo, hi, rfl, c.gh _ _ hb, h1, h2, h3, h4, h5, fun p hp => q _ _ _ (Go.new c hp) ⟨p, _, rfl, upd_same, DpAll.ofInts _⟩⟩
theorem cb_maxT {ns : List Int} {k : Int} (hk : k ∈ ns) (hm : ∀ y ∈ ns, y ≤ k) : CbD m (fun vs H Q => ∃ (a : Addr) (ns : List Int), vs = [V.ref a] ∧ SqT K H a (ns.map V.int) ∧ 0 < ns.length ∧ ∀ m, m ∈ ns → (∀ y, y ∈ ns → y ≤ m) → Q (.int m) H) [dd K (.tuple (ns.map PyData.int))] (di K k) := fun vs G H c a Q q => by
  obtain ⟨v, rfl, p⟩ := all2_one a
  cases p with
  | @tup b xs _ e d =>
    cases d.ints
    refine ⟨b, ns, rfl, SqT.mono e c.gh, List.length_pos_iff.mpr (fun z => by rw [z] at hk; cases hk), fun k' h1 h2 => q _ G H (Go.refl c) ?_⟩
    have : k' = k := Int.le_antisymm (hm k' h1) (h2 k hk)
    rw [this]; exact .int _
def exP {α : Type} (C : α → Prop) (Q : α → Pd) : Pd := ⟨fun v G => ∃ x, C x ∧ (Q x).φ v G, fun _ _ _ ⟨x, h, p⟩ s => ⟨x, h, (Q x).mono _ _ _ p s⟩⟩
/-- an int of which C holds -/
def exI (K : PySem.W.Frag) (C : Int → Prop) : Pd := exP C (di K)
theorem bl_setE {α : Type} {C : α → Prop} {Q : α → Pd} {i : Nat} (h : EvD m te δ (exP C Q)) (k : ∀ x, C x → Bl m E t2 (δ.set i (some (Q x))) O) : Bl m E (tSeq (tAsg te (gName i)) t2) δ O := fun σ G H D s c kx =>
  h σ G H s c _ fun v G1 H1 g ⟨x, hx, p⟩ => k x hx _ G1 H1 D ((s.mono g.gg).set p) (g.cn c) (kx.go g)
theorem od_exR {α : Type} {C : α → Prop} {Q S : α → Pd} {r : R2} (h : ∀ x, C x → OpD m r P (Q x) (S x)) : OpD m r P (exP C Q) (exP C S) := fun x y G H c px ⟨z, hz, py⟩ Q q =>
  h z hz x y G H c px py Q fun v G' H' g p => q v G' H' g ⟨z, hz, p⟩
theorem ev_addE {i : Int} {C : Int → Prop} (ha : EvD m ta δ (di K i)) (hb : EvD m tb δ (exI K C)) : EvD m (tOp (rI0 fun i j => .int (i + j)) ta tb) δ (exI K fun d => ∃ e, C e ∧ d = i + e) :=
  (ev_op (S := exP C fun e => di K (i + e)) ha hb (od_exR fun e _ => od_I0 (g := fun i j => .int (i + j)) fun _ => .int _)).to fun v G ⟨e, he, p⟩ => ⟨i + e, ⟨e, he, rfl⟩, p⟩
/-- xs[drawn] -/
theorem ev_ixE {xs : List PyData} {n : Int} (ha : EvD m ta δ (dd K (.list xs))) (hb : EvD m tb δ (exI K fun d => 0 ≤ d ∧ d < n)) (hn : n = xs.length) : EvD m (tOp (rIxL K) ta tb) δ (exP (fun d => d ∈ xs) (dd K)) := ev_op ha hb fun x y G H c px ⟨k, hk, py⟩ Q q => by
  cases py
  cases px with
  | @lst a vs _ e1 d1 =>
    have hlt : k.toNat < xs.length := by omega
    have h : L2.atI xs k = some xs[k.toNat] := by
      unfold L2.atI ixN
      rw [if_pos hk.1, if_pos (by omega)]
      simp [hlt]
    obtain ⟨v, e, p⟩ := dpa_atI d1 h
    exact ⟨a, vs, k, v, rfl, rfl, SqL.mono e1 c.gh, e, q _ G H (Go.refl c) ⟨_, List.getElem_mem hlt, p⟩⟩
theorem ev_callE {F : Md → List Pd → Oc → Prop} {ta : TA} {Ps : List Pd} (h : EvA m ta δ Ps) (hf : ∀ vs G, All2 G vs Ps → ∃ Ps' S', All2 G vs Ps' ∧ F m Ps' (.ret S') ∧ ∀ v G', S'.φ v G' → S.φ v G') : EvD m (tCall (spF F) [] E ta) δ S := fun σ G H s c Q q =>
  h σ G H s c _ fun vs G1 H1 t1 p1 => by
    rw [List.append_nil]
    obtain ⟨Ps', S', a, f, k⟩ := hf vs G1 p1
    exact ⟨m, G1, Ps', .ret S', f, t1.cn c, a, fun v G2 H2 t2 p2 => q v G2 H2 (t1.trans t2) (k v G2 p2)⟩
theorem ev_makeE {F : Md → List Pd → Oi → Prop} {C : Addr} {tA : TA} {Ps : List Pd} (ha : EvA m tA δ Ps) (hf : ∀ vs G, All2 G vs Ps → ∃ Ps' ps, All2 G vs Ps' ∧ F m Ps' (.ret ps) ∧ ∀ v G', (obj C ps).φ v G' → S.φ v G') : EvD m (tMake C (spI C F) [] E tA) δ S := fun σ G H s c Q q =>
  ha σ G H s c _ fun vs G1 H1 g p x dx hx hdx hne => by
    obtain ⟨Ps', ps, a, f, k⟩ := hf vs G1 p
    exact mk_raw (g.cn c) a f (fun v G' H' g' p' => q v G' H' (g.trans g') (k v G' p')) x dx hx hdx hne
def StrI (H : Hp) (st cl : Addr) : Prop := ∃ (cells : List Int) (i big seed step : Int), H st = some (.lst [.ref cl, .int i, .int big, .int seed, .int step]) ∧ H cl = some (.lst (cells.map V.int)) ∧ 0 ≤ i ∧ 0 ≤ big ∧ 0 ≤ seed ∧ seed < 2147483647
/-- a mode in which the stream at st (its cells at cl) may be drawn from -/
structure Dr (m : Md) (st cl : Addr) : Prop where
  chg : m.chg st
  ne : cl ≠ st
  inv : ∀ H, m.inv H → StrI H st cl
  back : ∀ H H', m.inv H → (∀ a o, a ≠ st → H a = some o → H' a = some o) → StrI H' st cl → m.inv H'
def strM (st cl : Addr) (h : cl ≠ st) : Md where
  chg := fun a => a = st
  dep := fun a => a = st ∨ a = cl
  inv := fun H => StrI H st cl
  sub := fun a h => .inl h
  mono := fun H H' ⟨cells, i, b, s, t, h1, h2, h3⟩ k => ⟨cells, i, b, s, t, k _ _ (.inl rfl) h1, k _ _ (.inr rfl) h2, h3⟩
  has := fun H a ⟨cells, i, b, s, t, h1, h2, h3⟩ d => d.elim (fun z => by subst z; exact ⟨_, h1⟩) fun z => by subst z; exact ⟨_, h2⟩
theorem dr_str {st cl : Addr} (h : cl ≠ st) : Dr (strM st cl h) st cl := ⟨rfl, h, fun _ x => x, fun _ _ _ _ x => x⟩
theorem Dr.hold {st cl D : Addr} {o : HO} (d : Dr m st cl) (h : ¬ m.dep D) : Dr (m.hold D o) st cl :=
  ⟨.inl d.chg, d.ne, fun H x => d.inv H x.1, fun H H' x k s => ⟨d.back H H' x.1 k s, k D o (fun z => h (by rw [z]; exact m.sub _ d.chg)) x.2⟩⟩
/-- the law's own mix -/
def mix1 (n s : Int) : Int := (n * 48271 + 7919 * s + 30103) % 2147483647
def mix2 (n : Int) : Int := n * (n / 1009 + 69621) % 2147483647
def mix3 (n : Int) : Int := n * (n / 2003 + 40692) % 2147483399
def mixI (n s : Int) : Int := mix3 (mix2 (mix1 n s))
def FMixed (K : PySem.W.Frag) : Md → List Pd → Oc → Prop := fun _ Ps O => ∃ n s, Ps = [di K n, di K s] ∧ O = .ret (di K (mixI n s))
def FDraw (K : PySem.W.Frag) : Md → List Pd → Oc → Prop := fun m Ps O => ∃ st cl many, Dr m st cl ∧ Ps = [vv (.ref st), di K many] ∧ 0 < many ∧ many < 1000000000 ∧ O = .ret (exI K fun d => 0 ≤ d ∧ d < many)
theorem ev_draw {tA : TA} {st cl : Addr} {many : Int} (hd : Dr m st cl) (ha : EvA m tA δ [vv (.ref st), di K many]) (h1 : 0 < many) (h2 : many < 1000000000) : EvD m (tCall (spF (FDraw K)) [] E tA) δ (exI K fun d => 0 ≤ d ∧ d < many) :=
  ev_call ha ⟨st, cl, many, hd, rfl, h1, h2, rfl⟩
end
end Nd

namespace L2
open PySem PySem.Spec PyProof.Rows
section
variable {X : Cx} {K : PySem.W.Frag}
theorem ix_listK (h : X.K = K) : IxR X (rIxL K) := h ▸ ix_list
theorem ix_tupK (h : X.K = K) : IxR X (rIxT K) := h ▸ ix_tup
theorem sl_listK (h : X.K = K) : SlR X (rSlL K) := h ▸ sl_list
theorem sl_tupK (h : X.K = K) : SlR X (rSlA K) := h ▸ sl_tupA
theorem op_catK (h : X.K = K) : OpR X (binaryOp .Add) (rCatA K) := h ▸ op_catA
theorem op_eqDK (h : X.K = K) (hu : X.A.units + 64 < cLine) : OpR X (compareOp .Eq) (rEqD K) := h ▸ op_eqD hu
theorem op_neDK (h : X.K = K) (hu : X.A.units + 64 < cLine) : OpR X (compareOp .NotEq) (rNeD K) := h ▸ op_neD hu
theorem op_inK (h : X.K = K) : OpR X (compareOp .In) (rIn K false) := h ▸ op_in_seq
theorem op_notInK (h : X.K = K) : OpR X (compareOp .NotIn) (rIn K true) := h ▸ op_notIn_seq
theorem call_lenK (h : X.K = K) : CallR X (.builtin "len") (fun xs H Q => ∃ p ys, xs = [.ref p] ∧ (SqL K H p ys ∨ SqT K H p ys) ∧ Q (.int ys.length) H) := h ▸ call_len_seq
theorem call_listK (h : X.K = K) : CallR X (.type "list") (fun xs H Q => ∃ p ys, xs = [.ref p] ∧ (SqL K H p ys ∨ SqT K H p ys) ∧ ∀ l, H l = none → Q (.ref l) (upd H l (.lst ys))) := h ▸ call_list_of
theorem call_tupleK (h : X.K = K) : CallR X (.type "tuple") (fun xs H Q => ∃ p ys, xs = [.ref p] ∧ ((SqL K H p ys ∧ ∀ l, H l = none → Q (.ref l) (upd H l (.tup ys))) ∨ (SqT K H p ys ∧ Q (.ref p) H))) := h ▸ call_tuple_of
theorem call_isiK' (h : X.K = K) : CallR X (.builtin "isinstance") (rIsi K) := h ▸ call_isi
theorem cr_maxTK (h : X.K = K) (hc : X.calm = true) : CallR X (.builtin "max") (fun vs H Q => ∃ (a : Addr) (ns : List Int), vs = [V.ref a] ∧ SqT K H a (ns.map V.int) ∧ 0 < ns.length ∧ ∀ m, m ∈ ns → (∀ y, y ∈ ns → y ≤ m) → Q (.int m) H) := h ▸ cr_maxT hc
theorem cr_minK' (h : X.K = K) (hc : X.calm = true) : CallR X (.builtin "min") (rMin K) := h ▸ cr_min hc
theorem cr_maxK' (h : X.K = K) (hc : X.calm = true) : CallR X (.builtin "max") (rMax K) := h ▸ cr_max hc
theorem cr_anyK (h : X.K = K) (hc : X.calm = true) : CallR X (.builtin "any") (rAny K) := h ▸ cr_any hc
theorem cr_allK (h : X.K = K) (hc : X.calm = true) : CallR X (.builtin "all") (rAll K) := h ▸ cr_all hc
theorem cr_sumK (h : X.K = K) (hc : X.calm = true) : CallR X (.builtin "sum") (rSum K) := h ▸ cr_sum hc
theorem pe_fldK {e : Expr} {f : Str} {pos : Pos} {ta : TE} (h : X.K = K) (he : PE X e ta) (hb : attributeBase e f X.env (eval e X.env) = eval e X.env) : PE X (.Attribute e f pos) (tFld K ta f) := h ▸ pe_fld he hb
theorem ps_fldK {o value : Expr} {f : Str} {pos pos' : Pos} {ta tv : TE} (h : X.K = K) (ha : PE X o ta) (hv : PE X value tv) (hs : swapsWith value (some (.Attribute o f pos')) pos.line X.env = pure false) : PS X (.Assign [.Attribute o f pos'] value pos) (sFld K ta tv f) := h ▸ ps_fld ha hv hs
theorem pi_listK {tg l : Expr} {tl : TE} (h : X.K = K) (hl : PE X l tl) : PI X tg l (iList K tl) := h ▸ pi_list hl
theorem pi_tupK {tg l : Expr} {tl : TE} (h : X.K = K) (hl : PE X l tl) : PI X tg l (iTup K tl) := h ▸ pi_tup hl
theorem pi_zipK {e e2 : Expr} {ta : TA} {p pos tpos : Pos} {elts : List Expr} {kk : Nat} (h : X.K = K) (hg : Gl X "zip") (hm : X.mg "zip" = none) (ha : PA X [e, e2] ta)
    (hs : starEach [e, e2] X.env = (false, eval e X.env) :: starEach [e2] X.env := by rfl) (hpl : (backTo pos (starEach [e2] X.env)).any (·.1) = false := by rfl) :
    PI X (.Tuple elts kk tpos) (.Call (.Name "zip" p) [e, e2] [] pos) (RZ.iZipA K ta) := h ▸ RZ.pi_zipA hg hm ha hs hpl
theorem pe_revLK {e : Expr} {te : TE} {k : Nat} {p1 p2 p3 pos : Pos} (h : X.K = K) (he : PE X e te) : PE X (.Subscript e (.Slice none none (some (.UnaryOp .USub (.Constant (.int 1) k p1) p2)) p3) pos) (tRevL K te) := h ▸ pe_revL he
end
end L2
namespace Nd
open PySem L2 PyProof.Rows
/-- a def of the text keeps a promise, and is called by its name and arguments alone -/
def Dok (P : Program) (w : World) (K : PySem.W.Frag) (mg : Str → Option Value) (base : Heap) (CX : CXT) (k : Nat) (f : Addr) (ps : List Str) (sp : Sp) : Prop :=
  ∃ fd, FnOk P w K mg base CX k f fd ps sp ∧ Binds K fd ps [] ∧ PySem.W.keepIn K (.ref f) = true
end Nd
namespace Nd
open PySem L2 PyProof.Rows
theorem WkD.to {m : Md} {wi : TI} {δ : List (Option Pd)} {n : Nat} {Y Y' : Nat → Pd} (h : WkD m wi δ n Y) (k : ∀ i, i < n → ∀ v G, (Y i).φ v G → (Y' i).φ v G) : WkD m wi δ n Y' := fun σ G H s c Q q =>
  h σ G H s c Q fun J G1 H1 g ⟨Gd, Yl, W, hG, hY⟩ => q J G1 H1 g ⟨Gd, Yl, W, hG, fun m' i H' x H'' G' hi s' c' y => let ⟨G'', g'', p⟩ := hY m' i H' x H'' G' hi s' c' y; ⟨G'', g'', k i hi x G'' p⟩⟩
end Nd

namespace K53
/-- the label rows of k labels below l, ascending -/
def first (r : List Int) : Int := match r.getLast? with
  | some x => x + 1
  | none => 0
def nextL (l : Nat) (r : List Int) : List (List Int) := (List.range ((l : Int) - first r).toNat).map fun (i : Nat) => r ++ [first r + (i : Int)]
def rows : Nat → Nat → List (List Int)
  | 0, _ => [[]]
  | k + 1, l => (rows k l).flatMap (nextL l)
def asc (lim : Int) : Int → List Int → Bool
  | _, [] => true
  | least, n :: ns => (decide (least ≤ n) && decide (n < lim)) && asc lim (n + 1) ns
def erase (r : List Int) (g : Nat) : List Int := r.take g ++ r.drop (g + 1)
/-- how many places differ -/
def mism : List Int → List Int → Nat
  | a :: as, b :: bs => (if a = b then 0 else 1) + mism as bs
  | _, _ => 0
def mirror (l : Int) (r : List Int) : List Int := (r.map fun x => l - 1 - x).reverse
def ends (r : List Int) (l : Int) : List Int := [-1] ++ r ++ [l]
def free (r : List Int) (g : Nat) (l : Int) : Int := (ends r l).getD (g + 1) 0 - (ends r l).getD g 0 - 1
def maxz (r : List Int) : Int := r.foldl (fun a b => if a < b then b else a) 0
def ls : List Nat := [1, 2, 3, 4, 5, 6, 7]
def chk1 (l k : Nat) : Bool := (rows k l).all fun r => asc l 0 r && r.length == k && asc l 0 (mirror l r)
def chk3 (l k : Nat) : Bool := (rows k l).all fun r => (rows (k + 1) l).all fun s => (List.range (k + 1)).all fun g => mism (mirror l r) (erase (mirror l s) (k - g)) == mism r (erase s g)
def chk4 (l k : Nat) : Bool := (rows k l).all fun r => (List.range (k + 1)).all fun g => (((rows (k + 1) l).filter fun s => mism r (erase s g) == 0).length : Int) == free r g l
def chk6 (l k : Nat) : Bool := ls.all fun l' => if l ≤ l' then ((rows k l').filter fun s => decide (maxz s < (l : Int))) == rows k l else true
def chkL (l k : Nat) : Bool := (rows k l).length ≤ 3000 && (if k ≤ l then 0 < (rows k l).length else true)
theorem all1 : (ls.all fun l => (List.range 5).all fun k => chk1 l k) = true := by decide +kernel
theorem all3 : (ls.all fun l => (List.range 4).all fun k => chk3 l k) = true := by decide +kernel
theorem all4 : (ls.all fun l => (List.range 4).all fun k => chk4 l k) = true := by decide +kernel
theorem all6 : (ls.all fun l => (List.range 5).all fun k => chk6 l k) = true := by decide +kernel
theorem allL : (ls.all fun l => (List.range 5).all fun k => chkL l k) = true := by decide +kernel
end K53
namespace K53
theorem mism_count : ∀ (r s : List Int), ((List.range (min r.length s.length)).filter fun i => !decide (r.getD i 0 = s.getD i 0)).length = mism r s
  | [], s => by simp [mism]
  | a :: as, [] => by simp [mism]
  | a :: as, b :: bs => by
    have ih := mism_count as bs
    have e : min (a :: as).length (b :: bs).length = min as.length bs.length + 1 := by simp only [List.length_cons]; omega
    rw [e, List.range_succ_eq_map, List.filter_cons, List.filter_map]
    unfold mism
    have e2 : ((fun i => !decide ((a :: as).getD i 0 = (b :: bs).getD i 0)) ∘ Nat.succ) = fun i => !decide (as.getD i 0 = bs.getD i 0) := by
      funext i; simp
    rw [e2]
    by_cases h : a = b
    · subst h; simp; simpa using ih
    · simp [h]; rw [← ih]; simp; omega
end K53
namespace K53
def chkF (l k : Nat) : Bool := (rows k l).all fun r => decide (0 ≤ first r) && decide (first r ≤ 7)
theorem allF : (ls.all fun l => (List.range 5).all fun k => chkF l k) = true := by decide +kernel
theorem of_all {f : Nat → Nat → Bool} {n : Nat} (h : (ls.all fun l => (List.range n).all fun k => f l k) = true) {l k : Nat} (hl : l ∈ ls) (hk : k < n) : f l k = true :=
  List.all_eq_true.mp (List.all_eq_true.mp h l hl) k (List.mem_range.mpr hk)
theorem first_bd {l k : Nat} (hl : l ∈ ls) (hk : k ≤ 4) {r : List Int} (h : r ∈ rows k l) : 0 ≤ first r ∧ first r ≤ 7 := by
  have z := List.all_eq_true.mp (of_all allF hl (Nat.lt_succ_of_le hk)) r h
  simp at z; exact z
theorem row_ok {l k : Nat} (hl : l ∈ ls) (hk : k ≤ 4) {r : List Int} (h : r ∈ rows k l) : asc l 0 r = true ∧ r.length = k ∧ asc l 0 (mirror l r) = true := by
  have z := List.all_eq_true.mp (of_all all1 hl (Nat.lt_succ_of_le hk)) r h
  simp at z; exact ⟨z.1.1, z.1.2, z.2⟩
theorem rows_len {l k : Nat} (hl : l ∈ ls) (hk : k ≤ 4) : (rows k l).length ≤ 3000 := by
  have z := of_all allL hl (Nat.lt_succ_of_le hk)
  unfold chkL at z
  simp at z; exact z.1
theorem rows_ne {l k : Nat} (hl : l ∈ ls) (hk : k ≤ 4) (h : k ≤ l) : 0 < (rows k l).length := by
  have z := of_all allL hl (Nat.lt_succ_of_le hk)
  unfold chkL at z
  simp [h] at z
  exact z.2
theorem range_getD {α : Type} (xs : List α) (d : α) : (List.range xs.length).map (fun j => xs.getD j d) = xs := by
  apply List.ext_getElem?
  intro i
  by_cases h : i < xs.length
  · simp [h, List.getD_eq_getElem?_getD]
  · rw [List.getElem?_eq_none (by simpa using Nat.le_of_not_lt h), List.getElem?_eq_none (by omega)]
theorem flatMap_len {α : Type} (F : Nat → List α) (B : Nat) : ∀ k, (∀ i, i < k → (F i).length ≤ B) → ((List.range k).flatMap F).length ≤ k * B
  | 0, _ => by simp
  | k + 1, h => by
    rw [List.range_succ, List.flatMap_append, List.length_append]
    have ih := flatMap_len F B k fun i hi => h i (by omega)
    have := h k (by omega)
    simp only [List.flatMap_cons, List.flatMap_nil, List.append_nil]
    rw [Nat.add_mul]
    omega
theorem mem_getD {α : Type} {xs : List α} {i : Nat} {d : α} (h : i < xs.length) : xs.getD i d ∈ xs := by
  rw [List.getD_eq_getElem?_getD, List.getElem?_eq_getElem h]; exact List.getElem_mem h
end K53

namespace K53
theorem mism_le : ∀ r s : List Int, mism r s ≤ r.length
  | [], _ => by simp [mism]
  | _ :: _, [] => by simp [mism]
  | a :: as, b :: bs => by
    have := mism_le as bs
    unfold mism
    simp only [List.length_cons]
    split <;> omega
theorem mism_zero : ∀ r s : List Int, r.length = s.length → (mism r s = 0 ↔ s = r)
  | [], [], _ => by simp [mism]
  | a :: as, b :: bs, h => by
    have ih := mism_zero as bs (by simpa using h)
    unfold mism
    by_cases e : a = b
    · subst e; simp [ih]
    · have e' : ¬ b = a := fun z => e z.symm
      simp [e, e']
theorem erase_len {r : List Int} {g : Nat} (h : g < r.length) : (erase r g).length + 1 = r.length := by
  unfold erase
  rw [List.length_append, List.length_take, List.length_drop]
  omega
theorem mism_tri : ∀ a b c : List Int, a.length = b.length → b.length = c.length → mism a c ≤ mism a b + mism b c
  | [], _, _, _, _ => by simp [mism]
  | a :: as, b :: bs, c :: cs, h1, h2 => by
    have ih := mism_tri as bs cs (by simpa using h1) (by simpa using h2)
    unfold mism
    by_cases e1 : a = b
    · subst e1
      simp only [if_true]
      omega
    · by_cases e2 : b = c
      · subst e2; simp only [e1, if_false, if_true]; omega
      · simp only [e1, e2, if_false]
        by_cases e3 : a = c
        · simp only [e3, if_true]; omega
        · simp only [e3, if_false]; omega
theorem mism_erase : ∀ (a b : List Int) (g : Nat), a.length = b.length → mism (erase a g) (erase b g) ≤ mism a b
  | [], [], g, _ => by simp [erase, mism]
  | a :: as, b :: bs, 0, h => by
    unfold erase
    simp only [List.take_zero, List.nil_append, Nat.zero_add, List.drop_succ_cons, List.drop_zero]
    show mism as bs ≤ (if a = b then 0 else 1) + mism as bs
    omega
  | a :: as, b :: bs, g + 1, h => by
    have ih := mism_erase as bs g (by simpa using h)
    unfold erase at ih ⊢
    simp only [List.take_succ_cons, List.cons_append, List.drop_succ_cons]
    show (if a = b then 0 else 1) + mism (as.take g ++ as.drop (g + 1)) (bs.take g ++ bs.drop (g + 1)) ≤ (if a = b then 0 else 1) + mism as bs
    omega
/-- two newcomers -/
theorem two_le (r s q : List Int) (g h : Nat) (e1 : s.length = r.length + 1) (e2 : q.length = s.length + 1) (hg : g ≤ r.length) (hh : h ≤ s.length) : mism r (erase (erase q h) g) ≤ mism r (erase s g) + mism s (erase q h) := by
  have l1 := erase_len (r := s) (g := g) (by omega)
  have l2 := erase_len (r := q) (g := h) (by omega)
  have l3 := erase_len (r := erase q h) (g := g) (by omega)
  have t := mism_tri r (erase s g) (erase (erase q h) g) (by omega) (by omega)
  have e := mism_erase s (erase q h) g (by omega)
  omega
theorem asc_mono (lim : Int) : ∀ (r : List Int) (a b : Int), a ≤ b → asc lim b r = true → asc lim a r = true
  | [], _, _, _, _ => rfl
  | n :: ns, a, b, h, e => by
    unfold asc at e ⊢
    simp only [Bool.and_eq_true, decide_eq_true_eq] at e ⊢
    exact ⟨⟨by omega, e.1.2⟩, e.2⟩
theorem asc_erase (lim : Int) : ∀ (r : List Int) (a : Int) (g : Nat), asc lim a r = true → asc lim a (erase r g) = true
  | [], a, g, _ => by simp [erase, asc]
  | n :: ns, a, 0, e => by
    unfold erase
    simp only [List.take_zero, List.nil_append, Nat.zero_add, List.drop_succ_cons, List.drop_zero]
    unfold asc at e
    simp only [Bool.and_eq_true, decide_eq_true_eq] at e
    exact asc_mono lim ns a (n + 1) (by omega) e.2
  | n :: ns, a, g + 1, e => by
    unfold asc at e
    simp only [Bool.and_eq_true, decide_eq_true_eq] at e
    have ih := asc_erase lim ns (n + 1) g e.2
    unfold erase at ih ⊢
    simp only [List.take_succ_cons, List.cons_append, List.drop_succ_cons]
    unfold asc
    simp only [Bool.and_eq_true, decide_eq_true_eq]
    exact ⟨e.1, ih⟩
theorem asc_lim {l l' : Int} (h : l ≤ l') : ∀ (r : List Int) (a : Int), asc l a r = true → asc l' a r = true
  | [], _, _ => rfl
  | n :: ns, a, e => by
    unfold asc at e ⊢
    simp only [Bool.and_eq_true, decide_eq_true_eq] at e ⊢
    exact ⟨⟨e.1.1, by omega⟩, asc_lim h ns _ e.2⟩
theorem maxz_spec (r : List Int) : maxz r ∈ (0 : Int) :: r ∧ ∀ y ∈ (0 : Int) :: r, y ≤ maxz r := by
  have key : ∀ (r : List Int) (a : Int), r.foldl (fun a b => if a < b then b else a) a ∈ a :: r ∧ ∀ y ∈ a :: r, y ≤ r.foldl (fun a b => if a < b then b else a) a := by
    intro r
    induction r with
    | nil => intro a; simp
    | cons b r ih =>
      intro a
      rw [List.foldl_cons]
      obtain ⟨h1, h2⟩ := ih (if a < b then b else a)
      refine ⟨?_, fun y hy => ?_⟩
      · rcases List.mem_cons.mp h1 with e | e
        · rw [e]; split <;> simp
        · exact List.mem_cons_of_mem _ (List.mem_cons_of_mem _ e)
      · have hd := h2 (if a < b then b else a) List.mem_cons_self
        have ha : a ≤ (if a < b then b else a) := by split <;> omega
        have hb : b ≤ (if a < b then b else a) := by split <;> omega
        rcases List.mem_cons.mp hy with e | e
        · rw [e]; exact Int.le_trans ha hd
        · rcases List.mem_cons.mp e with e | e
          · rw [e]; exact Int.le_trans hb hd
          · exact h2 y (List.mem_cons_of_mem _ e)
  exact key r 0
theorem law3 {l k g : Nat} (hl : l ∈ ls) (hk : k < 4) {r s : List Int} (hr : r ∈ rows k l) (hs : s ∈ rows (k + 1) l) (hg : g ≤ k) : mism (mirror l r) (erase (mirror l s) (k - g)) = mism r (erase s g) := by
  have z := List.all_eq_true.mp (List.all_eq_true.mp (List.all_eq_true.mp (of_all all3 hl hk) r hr) s hs) g (List.mem_range.mpr (by omega))
  simpa using z
theorem law4 {l k g : Nat} (hl : l ∈ ls) (hk : k < 4) {r : List Int} (hr : r ∈ rows k l) (hg : g ≤ k) : (((rows (k + 1) l).filter fun s => mism r (erase s g) == 0).length : Int) = free r g l := by
  have z := List.all_eq_true.mp (List.all_eq_true.mp (of_all all4 hl hk) r hr) g (List.mem_range.mpr (by omega))
  simpa using z
theorem law6 {l l' k : Nat} (hl : l ∈ ls) (hl' : l' ∈ ls) (hk : k ≤ 4) (h : l ≤ l') : ((rows k l').filter fun s => decide (maxz s < (l : Int))) = rows k l := by
  have z := List.all_eq_true.mp (of_all all6 hl (Nat.lt_succ_of_le hk)) l' hl'
  rw [if_pos h] at z
  exact eq_of_beq z
end K53

namespace Law
open PySem PySem.Spec PyProof.Rows L2 Nd
def top (i : Nat) : Stmt := PySem.Challenge.pw_neverowing_k53_whole_labels_mirrored_and.main.body.getD i (.Pass ⟨0, 0, 0, 0⟩)
abbrev sIsInteger : Stmt := top 8
theorem scIsInteger : FnScope ["value"] ["value"] (defScope sIsInteger) := ⟨rfl, rfl, rfl, by decide +kernel, rfl, by decide +kernel, by decide +kernel⟩
abbrev sIsAscending : Stmt := top 10
theorem scIsAscending : FnScope ["value", "limit", "least", "item"] ["value", "limit"] (defScope sIsAscending) := ⟨rfl, rfl, rfl, by decide +kernel, rfl, by decide +kernel, by decide +kernel⟩
abbrev sWithout : Stmt := top 11
theorem scWithout : FnScope ["row", "at"] ["row", "at"] (defScope sWithout) := ⟨rfl, rfl, rfl, by decide +kernel, rfl, by decide +kernel, by decide +kernel⟩
abbrev sLabelRows : Stmt := top 15
theorem scLabelRows : FnScope ["many", "labels", "rows", "_", "row", "label"] ["many", "labels"] (defScope sLabelRows) := ⟨rfl, rfl, rfl, by decide +kernel, rfl, by decide +kernel, by decide +kernel⟩
abbrev sRelabelled : Stmt := top 16
theorem scRelabelled : FnScope ["standing", "gap", "goal", "label", "other"] ["standing", "gap", "goal"] (defScope sRelabelled) := ⟨rfl, rfl, rfl, by decide +kernel, rfl, by decide +kernel, by decide +kernel⟩
abbrev sLabelWorld_Init : Stmt := inClass (top 17) 0
theorem scLabelWorld_Init : FnScope ["self", "things", "labels"] ["self", "things", "labels"] (defScope sLabelWorld_Init) := ⟨rfl, rfl, rfl, by decide +kernel, rfl, by decide +kernel, by decide +kernel⟩
abbrev sLabelWorld_IsRow : Stmt := inClass (top 17) 1
theorem scLabelWorld_IsRow : FnScope ["self", "value"] ["self", "value"] (defScope sLabelWorld_IsRow) := ⟨rfl, rfl, rfl, by decide +kernel, rfl, by decide +kernel, by decide +kernel⟩
abbrev sLabelWorld_CheckRow : Stmt := inClass (top 17) 2
theorem scLabelWorld_CheckRow : FnScope ["self", "value"] ["self", "value"] (defScope sLabelWorld_CheckRow) := ⟨rfl, rfl, rfl, by decide +kernel, rfl, by decide +kernel, by decide +kernel⟩
abbrev sLabelWorld_CheckGap : Stmt := inClass (top 17) 3
theorem scLabelWorld_CheckGap : FnScope ["self", "standing", "gap"] ["self", "standing", "gap"] (defScope sLabelWorld_CheckGap) := ⟨rfl, rfl, rfl, by decide +kernel, rfl, by decide +kernel, by decide +kernel⟩
abbrev sLabelWorld_Standings : Stmt := inClass (top 17) 4
theorem scLabelWorld_Standings : FnScope ["self", "many", "row"] ["self"] (defScope sLabelWorld_Standings) := ⟨rfl, rfl, rfl, by decide +kernel, rfl, by decide +kernel, by decide +kernel⟩
abbrev sLabelWorld_Gaps : Stmt := inClass (top 17) 5
theorem scLabelWorld_Gaps : FnScope ["self", "standing"] ["self", "standing"] (defScope sLabelWorld_Gaps) := ⟨rfl, rfl, rfl, by decide +kernel, rfl, by decide +kernel, by decide +kernel⟩
abbrev sLabelWorld_Nexts : Stmt := inClass (top 17) 6
theorem scLabelWorld_Nexts : FnScope ["self", "standing", "gap"] ["self", "standing", "gap"] (defScope sLabelWorld_Nexts) := ⟨rfl, rfl, rfl, by decide +kernel, rfl, by decide +kernel, by decide +kernel⟩
abbrev sLabelWorld_Moved : Stmt := inClass (top 17) 7
theorem scLabelWorld_Moved : FnScope ["self", "standing", "gap", "goal"] ["self", "standing", "gap", "goal"] (defScope sLabelWorld_Moved) := ⟨rfl, rfl, rfl, by decide +kernel, rfl, by decide +kernel, by decide +kernel⟩
abbrev sLabelWorld_Left : Stmt := inClass (top 17) 8
theorem scLabelWorld_Left : FnScope ["self", "standing", "place"] ["self", "standing", "place"] (defScope sLabelWorld_Left) := ⟨rfl, rfl, rfl, by decide +kernel, rfl, by decide +kernel, by decide +kernel⟩
abbrev sLabelWorld_AsWorld : Stmt := inClass (top 17) 9
theorem scLabelWorld_AsWorld : FnScope ["self"] ["self"] (defScope sLabelWorld_AsWorld) := ⟨rfl, rfl, rfl, by decide +kernel, rfl, by decide +kernel, by decide +kernel⟩
abbrev sLStream : Stmt := top 19
theorem scLStream : FnScope ["_law_script", "_law_cells", "_law_seed", "_law_cell"] ["_law_script"] (defScope sLStream) := ⟨rfl, rfl, rfl, by decide +kernel, rfl, by decide +kernel, by decide +kernel⟩
abbrev sLMixed : Stmt := top 20
theorem scLMixed : FnScope ["_law_number", "_law_step"] ["_law_number", "_law_step"] (defScope sLMixed) := ⟨rfl, rfl, rfl, by decide +kernel, rfl, by decide +kernel, by decide +kernel⟩
abbrev sLDraw : Stmt := top 21
theorem scLDraw : FnScope ["_law_stream_here", "_law_many", "_law_cell", "_law_told"] ["_law_stream_here", "_law_many"] (defScope sLDraw) := ⟨rfl, rfl, rfl, by decide +kernel, rfl, by decide +kernel, by decide +kernel⟩
abbrev sLInt : Stmt := top 22
theorem scLInt : FnScope ["_law_value"] ["_law_value"] (defScope sLInt) := ⟨rfl, rfl, rfl, by decide +kernel, rfl, by decide +kernel, by decide +kernel⟩
abbrev sLService : Stmt := top 23
theorem scLService : FnScope ["_law_stream_here", "_law_things", "_law_labels"] ["_law_stream_here"] (defScope sLService) := ⟨rfl, rfl, rfl, by decide +kernel, rfl, by decide +kernel, by decide +kernel⟩
abbrev sLMirrored : Stmt := top 24
theorem scLMirrored : FnScope ["_law_row", "_law_labels", "_law_label"] ["_law_row", "_law_labels"] (defScope sLMirrored) := ⟨rfl, rfl, rfl, by decide +kernel, rfl, by decide +kernel, by decide +kernel⟩
abbrev sLFree : Stmt := top 25
theorem scLFree : FnScope ["_law_row", "_law_gap", "_law_labels", "_law_ends"] ["_law_row", "_law_gap", "_law_labels"] (defScope sLFree) := ⟨rfl, rfl, rfl, by decide +kernel, rfl, by decide +kernel, by decide +kernel⟩
abbrev sLOne : Stmt := top 26
theorem scLOne : FnScope ["_law_stream_here", "_law_service_here", "_law_row", "_law_gap", "_law_goal", "_law_price", "_law_labels", "_law_none", "_law_wide", "_law_some", "_law_other"] ["_law_stream_here", "_law_service_here", "_law_row", "_law_gap", "_law_goal"] (defScope sLOne) := ⟨rfl, rfl, rfl, by decide +kernel, rfl, by decide +kernel, by decide +kernel⟩
abbrev sLTwo : Stmt := top 27
theorem scLTwo : FnScope ["_law_stream_here", "_law_service_here", "_law_row", "_law_gap", "_law_goal", "_law_again", "_law_nexts", "_law_last", "_law_rest", "_law_changed", "_law_k"] ["_law_stream_here", "_law_service_here", "_law_row", "_law_gap", "_law_goal"] (defScope sLTwo) := ⟨rfl, rfl, rfl, by decide +kernel, rfl, by decide +kernel, by decide +kernel⟩
abbrev sLaw : Stmt := top 28
theorem scLaw : FnScope ["_law_script", "_law_stream_here", "_law_service_here", "_law_rows", "_law_turn", "_law_row", "_law_gap", "_law_nexts", "_law_goal"] ["_law_script"] (defScope sLaw) := ⟨rfl, rfl, rfl, by decide +kernel, rfl, by decide +kernel, by decide +kernel⟩
def dIsInteger : He.DefD := ⟨("is_integer", none), "is_integer", "is_integer", defArgs sIsInteger, defBody sIsInteger, defScope sIsInteger, [], []⟩
def dIsAscending : He.DefD := ⟨("is_ascending", none), "is_ascending", "is_ascending", defArgs sIsAscending, defBody sIsAscending, defScope sIsAscending, [], []⟩
def dWithout : He.DefD := ⟨("without", none), "without", "without", defArgs sWithout, defBody sWithout, defScope sWithout, [], []⟩
def dLabelRows : He.DefD := ⟨("label_rows", none), "label_rows", "label_rows", defArgs sLabelRows, defBody sLabelRows, defScope sLabelRows, [], []⟩
def dRelabelled : He.DefD := ⟨("relabelled", none), "relabelled", "relabelled", defArgs sRelabelled, defBody sRelabelled, defScope sRelabelled, [], []⟩
def dLabelWorld_Init : He.DefD := ⟨("LabelWorld", some "__init__"), "__init__", "LabelWorld.__init__", defArgs sLabelWorld_Init, defBody sLabelWorld_Init, defScope sLabelWorld_Init, [], []⟩
def dLabelWorld_IsRow : He.DefD := ⟨("LabelWorld", some "is_row"), "is_row", "LabelWorld.is_row", defArgs sLabelWorld_IsRow, defBody sLabelWorld_IsRow, defScope sLabelWorld_IsRow, [], []⟩
def dLabelWorld_CheckRow : He.DefD := ⟨("LabelWorld", some "check_row"), "check_row", "LabelWorld.check_row", defArgs sLabelWorld_CheckRow, defBody sLabelWorld_CheckRow, defScope sLabelWorld_CheckRow, [], []⟩
def dLabelWorld_CheckGap : He.DefD := ⟨("LabelWorld", some "check_gap"), "check_gap", "LabelWorld.check_gap", defArgs sLabelWorld_CheckGap, defBody sLabelWorld_CheckGap, defScope sLabelWorld_CheckGap, [], []⟩
def dLabelWorld_Standings : He.DefD := ⟨("LabelWorld", some "standings"), "standings", "LabelWorld.standings", defArgs sLabelWorld_Standings, defBody sLabelWorld_Standings, defScope sLabelWorld_Standings, [], []⟩
def dLabelWorld_Gaps : He.DefD := ⟨("LabelWorld", some "gaps"), "gaps", "LabelWorld.gaps", defArgs sLabelWorld_Gaps, defBody sLabelWorld_Gaps, defScope sLabelWorld_Gaps, [], []⟩
def dLabelWorld_Nexts : He.DefD := ⟨("LabelWorld", some "nexts"), "nexts", "LabelWorld.nexts", defArgs sLabelWorld_Nexts, defBody sLabelWorld_Nexts, defScope sLabelWorld_Nexts, [], []⟩
def dLabelWorld_Moved : He.DefD := ⟨("LabelWorld", some "moved"), "moved", "LabelWorld.moved", defArgs sLabelWorld_Moved, defBody sLabelWorld_Moved, defScope sLabelWorld_Moved, [], []⟩
def dLabelWorld_Left : He.DefD := ⟨("LabelWorld", some "left"), "left", "LabelWorld.left", defArgs sLabelWorld_Left, defBody sLabelWorld_Left, defScope sLabelWorld_Left, [], []⟩
def dLabelWorld_AsWorld : He.DefD := ⟨("LabelWorld", some "as_world"), "as_world", "LabelWorld.as_world", defArgs sLabelWorld_AsWorld, defBody sLabelWorld_AsWorld, defScope sLabelWorld_AsWorld, [], []⟩
def dLStream : He.DefD := ⟨("_law_stream", none), "_law_stream", "_law_stream", defArgs sLStream, defBody sLStream, defScope sLStream, [], []⟩
def dLMixed : He.DefD := ⟨("_law_mixed", none), "_law_mixed", "_law_mixed", defArgs sLMixed, defBody sLMixed, defScope sLMixed, [], []⟩
def dLDraw : He.DefD := ⟨("_law_draw", none), "_law_draw", "_law_draw", defArgs sLDraw, defBody sLDraw, defScope sLDraw, [], []⟩
def dLInt : He.DefD := ⟨("_law_int", none), "_law_int", "_law_int", defArgs sLInt, defBody sLInt, defScope sLInt, [], []⟩
def dLService : He.DefD := ⟨("_law_service", none), "_law_service", "_law_service", defArgs sLService, defBody sLService, defScope sLService, [], []⟩
def dLMirrored : He.DefD := ⟨("_law_mirrored", none), "_law_mirrored", "_law_mirrored", defArgs sLMirrored, defBody sLMirrored, defScope sLMirrored, [], []⟩
def dLFree : He.DefD := ⟨("_law_free", none), "_law_free", "_law_free", defArgs sLFree, defBody sLFree, defScope sLFree, [], []⟩
def dLOne : He.DefD := ⟨("_law_one", none), "_law_one", "_law_one", defArgs sLOne, defBody sLOne, defScope sLOne, [], []⟩
def dLTwo : He.DefD := ⟨("_law_two", none), "_law_two", "_law_two", defArgs sLTwo, defBody sLTwo, defScope sLTwo, [], []⟩
def dLaw : He.DefD := ⟨("law", none), "law", "law", defArgs sLaw, defBody sLaw, defScope sLaw, [], []⟩
def fn : List He.DefD := [dIsInteger, dIsAscending, dWithout, dLabelRows, dRelabelled, dLabelWorld_Init, dLabelWorld_IsRow, dLabelWorld_CheckRow, dLabelWorld_CheckGap, dLabelWorld_Standings, dLabelWorld_Gaps, dLabelWorld_Nexts, dLabelWorld_Moved, dLabelWorld_Left, dLabelWorld_AsWorld, dLStream, dLMixed, dLDraw, dLInt, dLService, dLMirrored, dLFree, dLOne, dLTwo, dLaw]
def fa0 : List He.Fa := [.glo "is_integer", .glo "is_ascending", .glo "without", .glo "label_rows", .glo "relabelled", .glo "_law_stream", .glo "_law_mixed", .glo "_law_draw", .glo "_law_int", .glo "_law_service", .glo "_law_mirrored", .glo "_law_free", .glo "_law_one", .glo "_law_two", .glo "law", .glo "OweError", .glo "BadCount", .glo "BadLot", .glo "BadGap", .glo "BadPlace", .int "MOST_THINGS" 4, .int "MOST_LABELS" 7, .glo "LabelWorld", .cls "LabelWorld", .noat "LabelWorld" "things", .noat "LabelWorld" "labels", .mkr "LabelWorld", .meth "LabelWorld" "is_row", .meth "LabelWorld" "check_row", .meth "LabelWorld" "check_gap"]
def fa1 : List He.Fa := [.meth "LabelWorld" "standings", .meth "LabelWorld" "gaps", .meth "LabelWorld" "nexts", .meth "LabelWorld" "moved", .meth "LabelWorld" "left", .meth "LabelWorld" "as_world", .free "len", .free "int", .free "isinstance", .free "range", .free "list", .free "tuple", .free "bool", .free "zip", .free "min", .free "max", .free "super"]
def fa : List He.Fa := fa0 ++ fa1
def loose0 : List PySem.Str := ["_wall", "OweError", "BadCount", "BadLot", "BadGap", "BadPlace", "is_integer", "is_ascending", "without", "MOST_THINGS", "MOST_LABELS", "label_rows", "relabelled", "LabelWorld", "_law_stream", "_law_mixed", "_law_draw", "_law_int", "_law_service", "_law_mirrored", "_law_free", "_law_one", "_law_two"]
def loose : List PySem.Str := loose0

def tupI (ns : List Int) : PyData := .tuple (ns.map PyData.int)
def FIsInteger (K : PySem.W.Frag) : Md → List Pd → Oc → Prop := fun _ Ps O => ∃ d, Ps = [dd K d] ∧ O = .ret (db K (isInt d))
def FIsAsc (K : PySem.W.Frag) : Md → List Pd → Oc → Prop := fun _ Ps O => ∃ ns lim, Ps = [dd K (tupI ns), di K lim] ∧ O = .ret (db K (K53.asc lim 0 ns))
def FWithout (K : PySem.W.Frag) : Md → List Pd → Oc → Prop := fun _ Ps O => ∃ (ns : List Int) (g : Nat), ns.length ≤ 1000 ∧ Ps = [dd K (tupI ns), di K g] ∧ O = .ret (dd K (tupI (K53.erase ns g)))
def FRows (K : PySem.W.Frag) : Md → List Pd → Oc → Prop := fun _ Ps O => ∃ (k l : Nat), k ≤ 4 ∧ l ∈ K53.ls ∧ Ps = [di K k, di K l] ∧ O = .ret (dd K (.list ((K53.rows k l).map tupI)))
def FRelab (K : PySem.W.Frag) : Md → List Pd → Oc → Prop := fun _ Ps O => ∃ (r s : List Int) (g : Nat), r.length ≤ 1000 ∧ s.length ≤ 1000 ∧ Ps = [dd K (tupI r), di K g, dd K (tupI s)] ∧ O = .ret (di K (K53.mism r (K53.erase s g)))

def lw (K : PySem.W.Frag) (t l : Nat) : Pd := obj (He.ga K "LabelWorld") [("things", di K t), ("labels", di K l)]
/-- the bounds of a service -/
structure Svc (t l : Nat) : Prop where
  t1 : 1 ≤ t
  t4 : t ≤ 4
  tl : t ≤ l
  l7 : l ≤ 7
def FInit (K : PySem.W.Frag) : Md → List Pd → Oi → Prop := fun _ Ps O => ∃ t l : Nat, Svc t l ∧ Ps = [di K t, di K l] ∧ O = .ret [("things", di K t), ("labels", di K l)]
def isRow (t l : Nat) (r : List Int) : Bool := K53.asc l 0 r && decide (r.length ≤ t)
def FIsRow (K : PySem.W.Frag) : Md → List Pd → Oc → Prop := fun _ Ps O => ∃ (t l : Nat) (r : List Int), Ps = [lw K t l, dd K (tupI r)] ∧ O = .ret (db K (isRow t l r))
def FCheckRow (K : PySem.W.Frag) : Md → List Pd → Oc → Prop := fun _ Ps O => ∃ (t l : Nat) (r : List Int), isRow t l r = true ∧ Ps = [lw K t l, dd K (tupI r)] ∧ O = .ret (dd K .none)
def gapsOf (t : Nat) (r : List Int) : List Int := if r.length = t then [] else (List.range (r.length + 1)).map fun (i : Nat) => (i : Int)
def FGaps (K : PySem.W.Frag) : Md → List Pd → Oc → Prop := fun _ Ps O => ∃ (t l : Nat) (r : List Int), isRow t l r = true ∧ t ≤ 4 ∧ Ps = [lw K t l, dd K (tupI r)] ∧ O = .ret (dd K (.list ((gapsOf t r).map PyData.int)))
def FCheckGap (K : PySem.W.Frag) : Md → List Pd → Oc → Prop := fun _ Ps O => ∃ (t l g : Nat) (r : List Int), isRow t l r = true ∧ t ≤ 4 ∧ r.length < t ∧ g ≤ r.length ∧ Ps = [lw K t l, dd K (tupI r), di K g] ∧ O = .ret (dd K .none)
def FStandings (K : PySem.W.Frag) : Md → List Pd → Oc → Prop := fun _ Ps O => ∃ (t l : Nat), Svc t l ∧ Ps = [lw K t l] ∧ O = .ret (dd K (.list (((List.range (t + 1)).flatMap fun k => K53.rows k l).map tupI)))
def FNexts (K : PySem.W.Frag) : Md → List Pd → Oc → Prop := fun _ Ps O => ∃ (t l g : Nat) (r : List Int), Svc t l ∧ isRow t l r = true ∧ r.length < t ∧ g ≤ r.length ∧ Ps = [lw K t l, dd K (tupI r), di K g] ∧ O = .ret (dd K (.list ((K53.rows (r.length + 1) l).map tupI)))
def FMoved (K : PySem.W.Frag) : Md → List Pd → Oc → Prop := fun _ Ps O => ∃ (t l g : Nat) (r s : List Int), t ≤ 4 ∧ isRow t l r = true ∧ r.length < t ∧ g ≤ r.length ∧ isRow t l s = true ∧ s.length = r.length + 1 ∧ Ps = [lw K t l, dd K (tupI r), di K g, dd K (tupI s)] ∧ O = .ret (di K (K53.mism r (K53.erase s g)))
def FLeft (K : PySem.W.Frag) : Md → List Pd → Oc → Prop := fun _ Ps O => ∃ (t l g : Nat) (r : List Int), t ≤ 4 ∧ isRow t l r = true ∧ g < r.length ∧ Ps = [lw K t l, dd K (tupI r), di K g] ∧ O = .ret (dd K (tupI (K53.erase r g)))

def spStream (K : PySem.W.Frag) : Sp := fun vs H Q _ => ∃ (a : Addr) (ns : List Int), vs = [.ref a] ∧ SqL K H a (ns.map V.int) ∧ ∀ (st cl : Addr) (H' : Hp), cl ≠ st → H st = none → H cl = none → Same H H' → StrI H' st cl → Q (.ref st) H'

theorem nz1 {a : Bool} (h : (!true || !a) = true) : a = false := by cases a with | false => rfl | true => cases h
theorem nz0 {a : Bool} (h : (!true || !a) = false) : a = true := by cases a with | true => rfl | false => cases h
theorem cut_pre {α : Type} (xs : List α) (g : Nat) : ndCut xs none (some (g : Int)) = xs.take g := by
  unfold ndCut
  rw [HT.sIx_none, HT.sIx_nat, List.drop_zero, Nat.sub_zero, List.take_eq_take_iff]
  omega
theorem cut_suf {α : Type} (xs : List α) (g : Nat) : ndCut xs (some ((g : Int) + 1)) none = xs.drop (g + 1) := by
  unfold ndCut
  rw [HT.sIx_none, show ((g : Int) + 1) = ((g + 1 : Nat) : Int) by omega, HT.sIx_nat]
  by_cases h : g + 1 ≤ xs.length
  · rw [Nat.min_eq_left h, List.take_of_length_le (by rw [List.length_drop]; omega)]
  · rw [Nat.min_eq_right (by omega), List.drop_length, List.drop_eq_nil_of_le (by omega)]
    simp

theorem getD_int {ns : List Int} {i : Nat} (h : i < ns.length) : (ns.map PyData.int).getD i .none = .int (ns.getD i 0) := by
  rw [List.getD_eq_getElem?_getD, List.getD_eq_getElem?_getD]; simp [h]

theorem eqv_ints : ∀ (a b : List Int), PyData.eqvAll (a.map PyData.int) (b.map PyData.int) = decide (a = b)
  | [], [] => by simp [PyData.eqvAll]
  | [], _ :: _ => by simp [PyData.eqvAll]
  | _ :: _, [] => by simp [PyData.eqvAll]
  | x :: a, y :: b => by
    rw [List.map_cons, List.map_cons]
    unfold PyData.eqvAll
    rw [eqv_ints a b]
    have e : PyData.eqv (.int x) (.int y) = decide (x = y) := by
      unfold PyData.eqv
      first | rfl | (by_cases h : x = y <;> simp [h])
    rw [e]
    by_cases h1 : x = y <;> by_cases h2 : a = b <;> simp [h1, h2]
theorem eqv_tup (a b : List Int) : PyData.eqv (tupI a) (tupI b) = decide (a = b) := by
  unfold tupI PyData.eqv
  exact eqv_ints a b
theorem eqv_tups : ∀ (a b : List (List Int)), PyData.eqvAll (a.map tupI) (b.map tupI) = decide (a = b)
  | [], [] => by simp [PyData.eqvAll]
  | [], _ :: _ => by simp [PyData.eqvAll]
  | _ :: _, [] => by simp [PyData.eqvAll]
  | x :: a, y :: b => by
    rw [List.map_cons, List.map_cons]
    unfold PyData.eqvAll
    rw [eqv_tups a b, eqv_tup]
    by_cases h1 : x = y <;> by_cases h2 : a = b <;> simp [h1, h2]
theorem eqv_rows (a b : List (List Int)) : PyData.eqv (.list (a.map tupI)) (.list (b.map tupI)) = decide (a = b) := by
  unfold PyData.eqv
  exact eqv_tups a b
theorem filt_true {α : Type} (xs : List α) : xs.filter (fun _ => true) = xs := by simp
theorem lay_ints : ∀ a : List Int, PyData.canLayAll0 (a.map PyData.int) = true ∧ PyData.depthAll (a.map PyData.int) = 0
  | [] => ⟨rfl, rfl⟩
  | x :: a => by
    have ih := lay_ints a
    rw [List.map_cons]
    unfold PyData.canLayAll0 PyData.depthAll
    rw [ih.1, ih.2]
    exact ⟨rfl, rfl⟩
theorem lay_tups : ∀ a : List (List Int), PyData.canLayAll0 (a.map tupI) = true ∧ PyData.depthAll (a.map tupI) ≤ 1
  | [] => ⟨rfl, by decide⟩
  | x :: a => by
    have ih := lay_tups a
    have h1 := lay_ints x
    rw [List.map_cons]
    unfold PyData.canLayAll0 PyData.depthAll
    have e1 : PyData.canLay0 (tupI x) = true := by unfold tupI PyData.canLay0; exact h1.1
    have e2 : PyData.depth (tupI x) = 1 := by unfold tupI PyData.depth; rw [h1.2]
    rw [ih.1, e1, e2]
    exact ⟨rfl, by omega⟩
theorem shaped_tup (a : List Int) : SeqAt.shaped (tupI a) = true := by
  have h1 := lay_ints a
  unfold SeqAt.shaped tupI PyData.canLay0 PyData.depth
  rw [h1.1, h1.2]
  rfl
theorem shaped_rows (a : List (List Int)) : SeqAt.shaped (.list (a.map tupI)) = true := by
  have h1 := lay_tups a
  unfold SeqAt.shaped PyData.canLay0 PyData.depth
  rw [h1.1]
  simp only [Bool.true_and, decide_eq_true_eq]
  omega
theorem getD_tup {rs : List (List Int)} {i : Nat} (h : i < rs.length) : (rs.map tupI).getD i .none = tupI (rs.getD i []) := by
  rw [List.getD_eq_getElem?_getD, List.getD_eq_getElem?_getD]; simp [h]
theorem atI_last {r : List Int} {x : Int} (h : r.getLast? = some x) : L2.atI (r.map PyData.int) (-1) = some (.int x) := by
  have hne : r ≠ [] := by intro e; subst e; cases h
  have hp := List.length_pos_iff.mpr hne
  unfold L2.atI ixN
  rw [if_neg (by decide), if_pos (by rw [List.length_map]; omega)]
  have e : (-1 + ((r.map PyData.int).length : Int)).toNat = r.length - 1 := by rw [List.length_map]; omega
  show (r.map PyData.int)[(-1 + ((r.map PyData.int).length : Int)).toNat]? = _
  rw [e, List.getElem?_map, ← List.getLast?_eq_getElem?, h]
  rfl

theorem not_ff {a : Bool} (h : a = true) (h' : (!a) = true) : False := by rw [h] at h'; cases h'
theorem or_ff {a b : Bool} (h1 : a = false) (h2 : b = false) : (a || b) = false := by rw [h1, h2]; rfl
theorem dec_nat {a b : Nat} : decide ((a : Int) ≤ (b : Int)) = decide (a ≤ b) := by
  by_cases h : a ≤ b
  · rw [decide_eq_true h, decide_eq_true (by omega)]
  · rw [decide_eq_false h, decide_eq_false (by omega)]
theorem Svc.ls {t l : Nat} (h : Svc t l) : l ∈ K53.ls := by
  have := h.t1; have := h.tl; have := h.l7
  unfold K53.ls
  simp
  omega
theorem isRow_of {t l k : Nat} {r : List Int} (hl : l ∈ K53.ls) (hk : k ≤ 4) (h : r ∈ K53.rows k l) (ht : k ≤ t) : isRow t l r = true ∧ r.length = k := by
  have z := K53.row_ok hl hk h
  refine ⟨?_, z.2.1⟩
  unfold isRow
  rw [z.1, z.2.1, decide_eq_true ht]
  rfl
theorem mem_gaps {t g : Nat} {r : List Int} (h : r.length < t) (hg : g ≤ r.length) : decide ((g : Int) ∈ gapsOf t r) = true := by
  unfold gapsOf
  rw [if_neg (by omega)]
  apply decide_eq_true
  rw [List.mem_map]
  exact ⟨g, List.mem_range.mpr (by omega), rfl⟩

theorem flat_rows (t l : Nat) : ((List.range (t + 1)).flatMap fun k => ((List.range (K53.rows k l).length).filter fun _ => true).map fun (e : Nat) => tupI ((K53.rows k l).getD e [])) = ((List.range (t + 1)).flatMap fun k => K53.rows k l).map tupI := by
  rw [List.map_flatMap]
  congr 1
  funext k
  rw [filt_true]
  conv => rhs; rw [← K53.range_getD (K53.rows k l) []]
  rw [List.map_map]
  rfl

theorem mod_bd (x : Int) : 0 ≤ x % 2147483647 ∧ x % 2147483647 < 2147483647 := ⟨Int.emod_nonneg _ (by decide), Int.emod_lt_of_pos _ (by decide)⟩
theorem cut_ints (ns : List Int) (lo hi : Option Int) : cutV (ns.map V.int) lo hi = (ndCut ns lo hi).map V.int := by
  unfold cutV ndCut
  rw [List.length_map, List.map_take, List.map_drop]
theorem cells_at {cells : List Int} {i : Int} (h0 : 0 ≤ i) (h : i < (cells.map V.int).length) : L2.atI (cells.map V.int) i = some (.int (cells.getD i.toNat 0)) := by
  unfold L2.atI ixN
  rw [if_pos h0, if_pos h]
  rw [List.length_map] at h
  have hl : i.toNat < cells.length := by omega
  show (cells.map V.int)[i.toNat]? = _
  rw [List.getElem?_map, List.getElem?_eq_getElem hl, List.getD_eq_getElem?_getD, List.getElem?_eq_getElem hl]
  rfl

theorem ok_IsInteger {P : Program} {w : World} {K : PySem.W.Frag} {h : Heap} {mg : Str → Option Value} {base : Heap} (X : K.In h) (Gm : h.Ns mainGlobals mg) (c : He.SaysD fa fn K) : Dok P w K mg base CX0 1 (He.ga K "is_integer") ["value"] (spF (FIsInteger K)) := by
  obtain ⟨fd, F⟩ := c.def_ 0 (d := dIsInteger) rfl
  refine ⟨fd, ?_, F.bindsN (ps := ["value"]) fun _ _ _ _ _ _ us hl => match us, hl with | [_], _ => rfl, F.kp⟩
  have mg_bool := He.free_ok X Gm (c.fact 42 (f := .free "bool") rfl)
  have mg_int := He.free_ok X Gm (c.fact 37 (f := .free "int") rfl)
  have mg_isinstance := He.free_ok X Gm (c.fact 38 (f := .free "isinstance") rfl)
  have clLabelWorld := He.cls_ok (c.fact 23 (f := .cls "LabelWorld") rfl)
  have naLabelWorld_things := He.noat_ok (c.fact 24 (f := .noat "LabelWorld" "things") rfl)
  have naLabelWorld_labels := He.noat_ok (c.fact 25 (f := .noat "LabelWorld" "labels") rfl)
  refine fn_ok (k := 0) F scIsInteger ?len (fun cdv A outer s H E hr => ⟨_, PSs.nox (pss_one (ps_ret (pe_and (pe_callB (call_isiK' (K := K) rfl) (by rfl) mg_isinstance (by decide +kernel) (pa_cons (pv 0) (pa_cons (pe_bltn (v := .ty "int") (by rfl) mg_int (by decide +kernel) rfl) pa_nil))) (pe_one (pe_not (pe_callB (call_isiK' (K := K) rfl) (by rfl) mg_isinstance (by decide +kernel) (pa_cons (pv 0) (pa_cons (pe_bltn (v := .ty "bool") (by rfl) mg_bool (by decide +kernel) rfl) pa_nil)))))))), ?_⟩)
  case len => rintro m Ps O ⟨d, rfl, _⟩; rfl
  rintro m Ps O ⟨d, rfl, rfl⟩
  refine bl_ret (ev_andV (K := K) (ev_cb (ea_cons (ev_var rfl) (ea_cons ev_val ea_nil)) cb_isiInt) (fun _ => ev_notV (ev_cb (ea_cons (ev_var rfl) (ea_cons ev_val ea_nil)) cb_isiBool))) ?_
  show db K _ = db K _
  cases d <;> rfl

theorem ok_IsAscending {P : Program} {w : World} {K : PySem.W.Frag} {h : Heap} {mg : Str → Option Value} {base : Heap} (X : K.In h) (Gm : h.Ns mainGlobals mg) (c : He.SaysD fa fn K) : Dok P w K mg base CX0 2 (He.ga K "is_ascending") ["value", "limit"] (spF (FIsAsc K)) := by
  obtain ⟨fd, F⟩ := c.def_ 1 (d := dIsAscending) rfl
  refine ⟨fd, ?_, F.bindsN (ps := ["value", "limit"]) fun _ _ _ _ _ _ us hl => match us, hl with | [_, _], _ => rfl, F.kp⟩
  obtain ⟨fdIsInteger, GIsInteger, bIsInteger, kpIsInteger⟩ := ok_IsInteger (P := P) (w := w) (base := base) X Gm c
  have mg_is_integer := He.glo_ok X Gm (c.fact 0 (f := .glo "is_integer") rfl)
  have mg_isinstance := He.free_ok X Gm (c.fact 38 (f := .free "isinstance") rfl)
  have mg_tuple := He.free_ok X Gm (c.fact 41 (f := .free "tuple") rfl)
  have clLabelWorld := He.cls_ok (c.fact 23 (f := .cls "LabelWorld") rfl)
  have naLabelWorld_things := He.noat_ok (c.fact 24 (f := .noat "LabelWorld" "things") rfl)
  have naLabelWorld_labels := He.noat_ok (c.fact 25 (f := .noat "LabelWorld" "labels") rfl)
  refine fn_ok (k := 1) F scIsAscending ?len (fun cdv A outer s H E hr => ⟨_, PSs.nox (pss_cons (ps_if (pt_not (pt_val (pe_callB (call_isiK' (K := K) rfl) (by rfl) mg_isinstance (by decide +kernel) (pa_cons (pv 0) (pa_cons (pe_bltn (v := .ty "tuple") (by rfl) mg_tuple (by decide +kernel) rfl) pa_nil)))))
  (pss_one (ps_ret pe_bl)) pss_nil)
  (pss_cons (ps_set (i := 2) scIsAscending.nd rfl (by first | exact Or.inl rfl | exact Or.inr rfl) pe_int)
  (pss_cons (ps_for PassesOwn.never rfl (pi_tupK (K := K) rfl (pv 0)) (pg_name (i := 3) scIsAscending.nd rfl (by first | exact Or.inl rfl | exact Or.inr rfl))
  (pss_cons (ps_if (PW.pt (pw_or (pt_not (pt_val (pe_call GIsInteger (hr.mono (by decide)) (by rfl) mg_is_integer kpIsInteger bIsInteger .nil pass0 (pa_cons (pv 3) pa_nil)))) (pw_or1 (pt_not (pt_chain op_le op_lt (pv 2) (pv 3) (pv 1))))))
  (pss_one (ps_ret pe_bl)) pss_nil)
  (pss_one (ps_set (i := 2) scIsAscending.nd rfl (by first | exact Or.inl rfl | exact Or.inr rfl) (pe_op op_add (pv 3) pe_int)))))
  (pss_one (ps_ret pe_bl))))), ?_⟩)
  case len => rintro m Ps O ⟨ns, lim, rfl, _⟩; rfl
  rintro m Ps O ⟨ns, lim, rfl, rfl⟩
  refine bl_ifR (eb_not (eb_tB (ev_cb (ea_cons (ev_var rfl) (ea_cons ev_val ea_nil)) (cb_isiTuple (K := K))))) (fun hb => by cases hb) (fun _ => ?_)
  refine bl_nextS (bl_set (ev_int (K := K)) ?_)
  refine bl_for (fun i d => ∃ (least : Int) (last : Option Pd), K53.asc lim 0 ns = K53.asc lim least (ns.drop i) ∧ d = [some (dd K (tupI ns)), some (di K lim), some (di K least), last]) (wk_tup (ev_var rfl)) ⟨0, none, rfl, rfl⟩ ?_ ?_
  · rintro i _ hi ⟨least, last, e, rfl⟩
    rw [List.length_map] at hi
    have hg : (ns.map PyData.int).getD i .none = .int ns[i] := by rw [List.getD_eq_getElem?_getD]; simp [hi]
    have hdr : ns.drop i = ns[i] :: ns.drop (i + 1) := List.drop_eq_getElem_cons hi
    rw [hdr] at e
    dsimp only [List.set]
    rw [hg]
    refine bl_ifR (eb_or (eb_not (eb_tB (ev_call (F := FIsInteger K) (ea_cons (ev_var rfl) ea_nil) ⟨_, rfl, rfl⟩))) fun _ => eb_not (eb_tB (ev_chain (K := K) (f := fun i j => decide (i ≤ j)) (g := fun i j => decide (i < j)) (ev_var rfl) (ev_var rfl) (ev_var rfl)))) (fun hb => ?_) (fun hb => ?_)
    · refine bl_retS (ev_bl (K := K)) ?_
      show db K false = db K _
      have z : (decide (least ≤ ns[i]) && decide (ns[i] < lim)) = false := nz1 hb
      rw [e]
      unfold K53.asc
      rw [z]; rfl
    · refine bl_nextS (bl_set1 (ev_add (ev_var rfl) ev_int) ?_)
      have z : (decide (least ≤ ns[i]) && decide (ns[i] < lim)) = true := nz0 hb
      refine ⟨ns[i] + 1, _, ?_, rfl⟩
      rw [e]
      conv => lhs; unfold K53.asc
      rw [z]; rfl
  · rintro d ⟨least, last, e, rfl⟩
    refine bl_ret (ev_bl (K := K)) ?_
    show db K true = db K _
    rw [e, List.drop_eq_nil_of_le (by simp)]
    rfl

theorem ok_Without {P : Program} {w : World} {K : PySem.W.Frag} {h : Heap} {mg : Str → Option Value} {base : Heap} (X : K.In h) (Gm : h.Ns mainGlobals mg) (c : He.SaysD fa fn K) : Dok P w K mg base CX0 1 (He.ga K "without") ["row", "at"] (spF (FWithout K)) := by
  obtain ⟨fd, F⟩ := c.def_ 2 (d := dWithout) rfl
  refine ⟨fd, ?_, F.bindsN (ps := ["row", "at"]) fun _ _ _ _ _ _ us hl => match us, hl with | [_, _], _ => rfl, F.kp⟩
  have clLabelWorld := He.cls_ok (c.fact 23 (f := .cls "LabelWorld") rfl)
  have naLabelWorld_things := He.noat_ok (c.fact 24 (f := .noat "LabelWorld" "things") rfl)
  have naLabelWorld_labels := He.noat_ok (c.fact 25 (f := .noat "LabelWorld" "labels") rfl)
  refine fn_ok (k := 0) F scWithout ?len (fun cdv A outer s H E hr => ⟨_, PSs.nox (pss_one (ps_ret (pe_op (op_catK (K := K) rfl) (pe_slice (sl_tupK (K := K) rfl) (pv 0) po_none (po_some (pv 1))) (pe_slice (sl_tupK (K := K) rfl) (pv 0) (po_some (pe_op op_add (pv 1) pe_int)) po_none)))), ?_⟩)
  case len => rintro m Ps O ⟨ns, g, _, rfl, _⟩; rfl
  rintro m Ps O ⟨ns, g, hl, rfl, rfl⟩
  refine bl_ret (ev_catT (K := K) (ev_slT (ev_var rfl) eo_none (eo_some (ev_var rfl))) (ev_slT (ev_var rfl) (eo_some (ev_add (ev_var rfl) ev_int)) eo_none) ?_) ?_
  · unfold ndCut
    simp only [List.length_take, List.length_drop, List.length_map]
    omega
  · show dd K _ = dd K _
    rw [cut_pre, cut_suf]
    unfold tupI K53.erase
    rw [List.map_append, List.map_take, List.map_drop]

theorem ok_LabelRows {P : Program} {w : World} {K : PySem.W.Frag} {h : Heap} {mg : Str → Option Value} {base : Heap} (X : K.In h) (Gm : h.Ns mainGlobals mg) (c : He.SaysD fa fn K) : Dok P w K mg base CX0 1 (He.ga K "label_rows") ["many", "labels"] (spF (FRows K)) := by
  obtain ⟨fd, F⟩ := c.def_ 3 (d := dLabelRows) rfl
  refine ⟨fd, ?_, F.bindsN (ps := ["many", "labels"]) fun _ _ _ _ _ _ us hl => match us, hl with | [_, _], _ => rfl, F.kp⟩
  have mg_range := He.free_ok X Gm (c.fact 39 (f := .free "range") rfl)
  have clLabelWorld := He.cls_ok (c.fact 23 (f := .cls "LabelWorld") rfl)
  have naLabelWorld_things := He.noat_ok (c.fact 24 (f := .noat "LabelWorld" "things") rfl)
  have naLabelWorld_labels := He.noat_ok (c.fact 25 (f := .noat "LabelWorld" "labels") rfl)
  refine fn_ok (k := 0) F scLabelRows ?len (fun cdv A outer s H E hr => ⟨_, PSs.nox (pss_cons (ps_set (i := 2) scLabelRows.nd rfl (by first | exact Or.inl rfl | exact Or.inr rfl) (pe_lst (pa_cons (pe_tup pa_nil) pa_nil)))
  (pss_cons (ps_for PassesOwn.never rfl (pi_range1 (by rfl) mg_range (pa_cons (pv 0) pa_nil)) (pg_name (i := 3) scLabelRows.nd rfl (by first | exact Or.inl rfl | exact Or.inr rfl))
  (pss_one (ps_setLc2 (i := 2) (own := [("row", 4), ("label", 5)]) (vs1 := [5]) (g := gName 4) (g1 := gName 5) (by rfl) scLabelRows.nd rfl rfl (sw_true rfl rfl rfl (by decide +kernel)) (pi_listK (K := K) rfl (pv 2)) (blkOk_by (own := [("row", 4), ("label", 5)]) (N := ["many", "labels", "rows", "_", "row", "label"]) (sc := defScope sLabelRows) (by decide +kernel)) (by decide) (fun _ _ _ _ _ => by exact (pg_name (i := 4) scLabelRows.nd rfl (by first | exact Or.inl rfl | exact Or.inr rfl))) (fun _ _ _ _ _ => by exact pts_nil) (fun _ _ _ _ _ => by exact (pi_range2 (by rfl) mg_range (pa_cons (pe_ifExp (pt_cmpR (op_neDK (K := K) rfl hr.units) (pv 4) (pe_tup pa_nil) (nomark _)) (pe_op op_add (pe_ix (ix_tupK (K := K) rfl) (pv 4) (pe_un un_neg pe_int) (fun _ _ => rfl)) pe_int) pe_int) (pa_cons (pv 1) pa_nil)))) (fun _ _ _ _ _ => by exact (pg_name (i := 5) scLabelRows.nd rfl (by first | exact Or.inl rfl | exact Or.inr rfl))) (fun _ _ _ _ _ => by exact pts_nil) (fun _ _ _ _ _ => by exact (pe_op (op_catK (K := K) rfl) (pv 4) (pe_tup (pa_cons (pv 5) pa_nil)))))))
  (pss_one (ps_ret (pv 2))))), ?_⟩)
  case len => rintro m Ps O ⟨k, l, _, _, rfl, _⟩; rfl
  rintro m Ps O ⟨k, l, hk, hl, rfl, rfl⟩
  refine bl_set (ev_lst (K := K) (ds := [tupI []]) (ea_cons (ev_tup (ds := []) ea_nil (by decide)) ea_nil) (by decide)) ?_
  refine bl_for (fun i d => ∃ last : Option Pd, d = [some (di K k), some (di K l), some (dd K (.list ((K53.rows i l).map tupI))), last, none, none]) (wk_rng1 (K := K) (ea_cons (ev_var rfl) ea_nil) (by omega) (by omega)) ⟨none, rfl⟩ ?_ ?_
  · rintro i _ hi ⟨last, rfl⟩
    have hi' : i < k := by omega
    have bd : ∀ j, j < (K53.rows i l).length → 0 ≤ K53.first ((K53.rows i l).getD j []) ∧ K53.first ((K53.rows i l).getD j []) ≤ 7 := fun j hj => K53.first_bd hl (by omega) (K53.mem_getD hj)
    have hl7 : l ≤ 7 := by unfold K53.ls at hl; simp at hl; omega
    have n1 : ∀ j, j < (K53.rows i l).length → ((l : Int) - K53.first ((K53.rows i l).getD j [])).toNat ≤ 7 := fun j hj => by have := bd j hj; omega
    have len := K53.rows_len hl (show i ≤ 4 by omega)
    refine bl_set1 (ev_lc2 (K := K) (n1 := fun j => ((l : Int) - K53.first ((K53.rows i l).getD j [])).toNat) (Y1 := fun j e => di K (K53.first ((K53.rows i l).getD j []) + (e : Int))) (b := fun _ _ => true)
      (f := fun j e => tupI ((K53.rows i l).getD j [] ++ [K53.first ((K53.rows i l).getD j []) + (e : Int)])) (wk_list (ev_var rfl)) (by decide) (by decide) ?n ?n1 ?w ?t ?e) ?_
    case n =>
      intro q hq
      rw [List.length_map] at hq
      refine Nat.le_trans (K53.flatMap_len _ 7 q fun j hj => ?_) (by omega)
      simp only [filt_true, List.length_map, List.length_range]
      exact n1 j (by omega)
    case n1 =>
      intro j hj
      rw [List.length_map] at hj
      have := n1 j hj
      show ((l : Int) - K53.first ((K53.rows i l).getD j [])).toNat ≤ 1000000
      omega
    case w =>
      intro D o _ j hj
      rw [List.length_map] at hj
      have b1 := bd j hj
      rw [getD_tup hj]
      refine wk_rng2 (K := K) (ea_cons (ev_if (P := di K (K53.first ((K53.rows i l).getD j []))) (eb_test (ev_neD (K := K) (ev_var rfl) (ev_tup (ds := []) ea_nil (by decide)) (shaped_tup _) (by decide +kernel))) (fun hb => ?_) (fun hb => ?_)) (ea_cons (ev_var rfl) ea_nil)) (by omega) (by omega) (by omega) (by omega)
      · cases e : ((K53.rows i l).getD j []).getLast? with
        | none =>
          exfalso
          have e2 : (K53.rows i l).getD j [] = [] := by simpa using e
          have hb' : (!PyData.eqv (tupI ((K53.rows i l).getD j [])) (tupI [])) = true := hb
          rw [eqv_tup, e2] at hb'
          cases hb'
        | some x =>
          have z : K53.first ((K53.rows i l).getD j []) = x + 1 := by unfold K53.first; rw [e]
          rw [z]
          exact ev_add (ev_ixT (ev_var rfl) (ev_neg ev_int) (atI_last e)) ev_int
      · have hb' : (!PyData.eqv (tupI ((K53.rows i l).getD j [])) (tupI [])) = false := hb
        rw [eqv_tup] at hb'
        have e2 : (K53.rows i l).getD j [] = [] := by simpa using hb'
        rw [e2]
        exact ev_int
    case t => exact fun D o _ j e _ _ => eb_yes
    case e =>
      intro D o _ j e hj he _
      rw [List.length_map] at hj
      rw [getD_tup hj]
      have z := ev_catT (K := K) (m := m.hold D o) (ta := tVar 4) (tb := tTup (tCons (tVar 5) tNil)) (δ := [some (di K k), some (di K l), some (dd K (.list ((K53.rows i l).map tupI))), some (di K (i : Int)), some (dd K (tupI ((K53.rows i l).getD j []))), some (di K (K53.first ((K53.rows i l).getD j []) + (e : Int)))]) (ev_var rfl) (ev_tup (ds := [.int _]) (ea_cons (ev_var rfl) ea_nil) (by simp)) (by
        rw [List.length_map, (K53.row_ok hl (show i ≤ 4 by omega) (K53.mem_getD hj)).2.1]; show i + 1 ≤ 100000; omega)
      refine z.to fun v G p => ?_
      show Dp K G v (tupI _)
      unfold tupI
      rw [List.map_append]
      exact p
    refine ⟨some (di K (i : Int)), ?_⟩
    have key : ((List.range ((K53.rows i l).map tupI).length).flatMap fun j => ((List.range (((l : Int) - K53.first ((K53.rows i l).getD j [])).toNat)).filter fun _ => true).map fun (e : Nat) => tupI ((K53.rows i l).getD j [] ++ [K53.first ((K53.rows i l).getD j []) + (e : Int)])) = (K53.rows (i + 1) l).map tupI := by
      rw [List.length_map]
      show _ = ((K53.rows i l).flatMap (K53.nextL l)).map tupI
      rw [List.map_flatMap]
      conv => rhs; rw [← K53.range_getD (K53.rows i l) [], List.flatMap_map]
      simp only [filt_true, K53.nextL, List.map_map]
      rfl
    rw [key]
    rfl
  · rintro d ⟨last, rfl⟩
    refine bl_ret (ev_var rfl) ?_
    show dd K _ = dd K _
    rw [Int.toNat_natCast]

theorem ok_Relabelled {P : Program} {w : World} {K : PySem.W.Frag} {h : Heap} {mg : Str → Option Value} {base : Heap} (X : K.In h) (Gm : h.Ns mainGlobals mg) (c : He.SaysD fa fn K) : Dok P w K mg base CX0 2 (He.ga K "relabelled") ["standing", "gap", "goal"] (spF (FRelab K)) := by
  obtain ⟨fd, F⟩ := c.def_ 4 (d := dRelabelled) rfl
  refine ⟨fd, ?_, F.bindsN (ps := ["standing", "gap", "goal"]) fun _ _ _ _ _ _ us hl => match us, hl with | [_, _, _], _ => rfl, F.kp⟩
  obtain ⟨fdWithout, GWithout, bWithout, kpWithout⟩ := ok_Without (P := P) (w := w) (base := base) X Gm c
  have mg_without := He.glo_ok X Gm (c.fact 2 (f := .glo "without") rfl)
  have mg_len := He.free_ok X Gm (c.fact 36 (f := .free "len") rfl)
  have mg_zip := He.free_ok X Gm (c.fact 43 (f := .free "zip") rfl)
  have clLabelWorld := He.cls_ok (c.fact 23 (f := .cls "LabelWorld") rfl)
  have naLabelWorld_things := He.noat_ok (c.fact 24 (f := .noat "LabelWorld" "things") rfl)
  have naLabelWorld_labels := He.noat_ok (c.fact 25 (f := .noat "LabelWorld" "labels") rfl)
  refine fn_ok (k := 1) F scRelabelled ?len (fun cdv A outer s H E hr => ⟨_, PSs.nox (pss_one (ps_ret (pe_callB (call_lenK (K := K) rfl) (by rfl) mg_len PySem.boot_len (pa_cons (pe_lc (own := [("label", 3), ("other", 4)]) (g := gTup K 2 (gCons (gName 3) (gCons (gName 4) gNil))) (by rfl) scRelabelled.nd (pi_zipK (K := K) rfl (by rfl) mg_zip (pa_cons (pv 0) (pa_cons (pe_call GWithout (hr.mono (by decide)) (by rfl) mg_without kpWithout bWithout .nil pass0 (pa_cons (pv 2) (pa_cons (pv 1) pa_nil))) pa_nil))) (blkOk_by (own := [("label", 3), ("other", 4)]) (N := ["standing", "gap", "goal", "label", "other"]) (sc := defScope sRelabelled) (by decide +kernel)) (fun _ _ _ _ _ => by exact (pg_tup rfl (pgs_cons (pg_name (i := 3) scRelabelled.nd rfl (by first | exact Or.inl rfl | exact Or.inr rfl)) (pgs_cons (pg_name (i := 4) scRelabelled.nd rfl (by first | exact Or.inl rfl | exact Or.inr rfl)) pgs_nil)))) (fun _ _ _ _ _ => by exact (pts_one (pt_cmpR op_ne (pv 3) (pv 4) (nomark _)))) (fun _ _ _ _ _ => by exact (pv 3))) pa_nil)))), ?_⟩)
  case len => rintro m Ps O ⟨r, s, g, _, _, rfl, _⟩; rfl
  rintro m Ps O ⟨r, s, g, hr1, hs1, rfl, rfl⟩
  refine bl_ret (ev_cb (ea_cons (ev_lcG (K := K) (b := fun i => !decide (r.getD i 0 = (K53.erase s g).getD i 0)) (f := fun i => .int (r.getD i 0)) (δ' := fun i => [some (dd K (tupI r)), some (di K g), some (dd K (tupI s)), some (di K (r.getD i 0)), some (di K ((K53.erase s g).getD i 0))])
    (wk_zipT (ea_cons (ev_var rfl) (ea_cons (ev_call (F := FWithout K) (ea_cons (ev_var rfl) (ea_cons (ev_var rfl) ea_nil)) ⟨s, g, hs1, rfl, rfl⟩) ea_nil))) ?tg ?n ?t ?e) ea_nil) cb_lenL) ?_
  case tg =>
    intro i hi
    rw [List.length_map, List.length_map] at hi
    have h1 : (r.map PyData.int).getD i .none = .int (r.getD i 0) := getD_int (by omega)
    have h2 : ((K53.erase s g).map PyData.int).getD i .none = .int ((K53.erase s g).getD i 0) := getD_int (by omega)
    rw [h1, h2]
    exact tg_pair (by decide) (by decide)
  case n => rw [List.length_map]; omega
  case t => exact fun D o _ i _ => eb_test (ev_neI (ev_var rfl) (ev_var rfl))
  case e => exact fun D o _ i _ _ => ev_var rfl
  show di K _ = di K _
  rw [List.length_map, List.length_map, List.length_map, K53.mism_count]

theorem ok_LabelWorld_Init {P : Program} {w : World} {K : PySem.W.Frag} {h : Heap} {mg : Str → Option Value} {base : Heap} (X : K.In h) (Gm : h.Ns mainGlobals mg) (c : He.SaysD fa fn K) : Dok P w K mg base CX0 2 (He.ma K (He.ga K "LabelWorld") "__init__") ["self", "things", "labels"] (spI (He.ga K "LabelWorld") (FInit K)) := by
  obtain ⟨fd, F⟩ := c.def_ 5 (d := dLabelWorld_Init) rfl
  refine ⟨fd, ?_, F.bindsN (ps := ["self", "things", "labels"]) fun _ _ _ _ _ _ us hl => match us, hl with | [_, _, _], _ => rfl, F.kp⟩
  obtain ⟨fdIsInteger, GIsInteger, bIsInteger, kpIsInteger⟩ := ok_IsInteger (P := P) (w := w) (base := base) X Gm c
  have mg_is_integer := He.glo_ok X Gm (c.fact 0 (f := .glo "is_integer") rfl)
  obtain ⟨t_MOST_LABELS, mg_MOST_LABELS⟩ := He.int_ok X Gm (c.fact 21 (f := .int "MOST_LABELS" 7) rfl)
  obtain ⟨t_MOST_THINGS, mg_MOST_THINGS⟩ := He.int_ok X Gm (c.fact 20 (f := .int "MOST_THINGS" 4) rfl)
  have clLabelWorld := He.cls_ok (c.fact 23 (f := .cls "LabelWorld") rfl)
  have naLabelWorld_things := He.noat_ok (c.fact 24 (f := .noat "LabelWorld" "things") rfl)
  have naLabelWorld_labels := He.noat_ok (c.fact 25 (f := .noat "LabelWorld" "labels") rfl)
  refine init_ok (k := 1) F scLabelWorld_Init ?len (fun cdv A outer s H E hr => ⟨_, PSs.nox (pss_cons (ps_if (PW.pt (pw_or (pt_not (pt_val (pe_call GIsInteger (hr.mono (by decide)) (by rfl) mg_is_integer kpIsInteger bIsInteger .nil pass0 (pa_cons (pv 1) pa_nil)))) (pw_or1 (pt_not (pt_chain op_le op_le pe_int (pv 1) (pe_glob (v := .int 4) (by rfl) mg_MOST_THINGS ⟨_, rfl⟩))))))
  (pss_one ps_never) pss_nil)
  (pss_cons (ps_if (PW.pt (pw_or (pt_not (pt_val (pe_call GIsInteger (hr.mono (by decide)) (by rfl) mg_is_integer kpIsInteger bIsInteger .nil pass0 (pa_cons (pv 2) pa_nil)))) (pw_or1 (pt_not (pt_chain op_le op_le (pv 1) (pv 2) (pe_glob (v := .int 7) (by rfl) mg_MOST_LABELS ⟨_, rfl⟩))))))
  (pss_one ps_never) pss_nil)
  (pss_cons (ps_fldK (K := K) rfl (pv 0) (pv 1) rfl)
  (pss_one (ps_fldK (K := K) rfl (pv 0) (pv 2) rfl))))), ?_⟩)
  case len => rintro m Ps O ⟨t, l, _, rfl, _⟩; rfl
  rintro m Ps O a dx ⟨t, l, hs, rfl, rfl⟩
  have h1 := hs.t1; have h2 := hs.t4; have h3 := hs.tl; have h4 := hs.l7
  refine in_ifN (fun fs => (eb_or (eb_not (eb_tB (ev_call (F := FIsInteger K) (ea_cons (ev_var rfl) ea_nil) ⟨_, rfl, rfl⟩))) fun _ => eb_not (eb_test (ev_chain (K := K) (f := fun i j => decide (i ≤ j)) (g := fun i j => decide (i ≤ j)) ev_int (ev_var rfl) ev_int))).to ?_) ?_
  · exact or_ff rfl (by rw [decide_eq_true (by omega), decide_eq_true (by omega)]; rfl)
  refine in_ifN (fun fs => (eb_or (eb_not (eb_tB (ev_call (F := FIsInteger K) (ea_cons (ev_var rfl) ea_nil) ⟨_, rfl, rfl⟩))) fun _ => eb_not (eb_test (ev_chain (K := K) (f := fun i j => decide (i ≤ j)) (g := fun i j => decide (i ≤ j)) (ev_var rfl) (ev_var rfl) ev_int))).to ?_) ?_
  · exact or_ff rfl (by rw [decide_eq_true (by omega), decide_eq_true (by omega)]; rfl)
  refine in_fld (P := di K t) rfl clLabelWorld naLabelWorld_things (by decide) rfl (fun fs => ev_var rfl) ?_
  exact in_fld1 (P := di K l) rfl clLabelWorld naLabelWorld_labels (by simp) (by kernel_rfl) (fun fs => ev_var rfl)

theorem ok_LabelWorld_IsRow {P : Program} {w : World} {K : PySem.W.Frag} {h : Heap} {mg : Str → Option Value} {base : Heap} (X : K.In h) (Gm : h.Ns mainGlobals mg) (c : He.SaysD fa fn K) : Dok P w K mg base CX0 3 (He.ma K (He.ga K "LabelWorld") "is_row") ["self", "value"] (spF (FIsRow K)) := by
  obtain ⟨fd, F⟩ := c.def_ 6 (d := dLabelWorld_IsRow) rfl
  refine ⟨fd, ?_, F.bindsN (ps := ["self", "value"]) fun _ _ _ _ _ _ us hl => match us, hl with | [_, _], _ => rfl, F.kp⟩
  obtain ⟨fdIsAscending, GIsAscending, bIsAscending, kpIsAscending⟩ := ok_IsAscending (P := P) (w := w) (base := base) X Gm c
  have mg_is_ascending := He.glo_ok X Gm (c.fact 1 (f := .glo "is_ascending") rfl)
  have mg_len := He.free_ok X Gm (c.fact 36 (f := .free "len") rfl)
  have clLabelWorld := He.cls_ok (c.fact 23 (f := .cls "LabelWorld") rfl)
  have naLabelWorld_things := He.noat_ok (c.fact 24 (f := .noat "LabelWorld" "things") rfl)
  have naLabelWorld_labels := He.noat_ok (c.fact 25 (f := .noat "LabelWorld" "labels") rfl)
  refine fn_ok (k := 2) F scLabelWorld_IsRow ?len (fun cdv A outer s H E hr => ⟨_, PSs.nox (pss_one (ps_ret (pe_and (pe_call GIsAscending (hr.mono (by decide)) (by rfl) mg_is_ascending kpIsAscending bIsAscending .nil pass0 (pa_cons (pv 1) (pa_cons (pe_fldK (K := K) rfl (pv 0) rfl) pa_nil))) (pe_one (pe_cmpR op_le (pe_callB (call_lenK (K := K) rfl) (by rfl) mg_len PySem.boot_len (pa_cons (pv 1) pa_nil)) (pe_fldK (K := K) rfl (pv 0) rfl) (nomark _)))))), ?_⟩)
  case len => rintro m Ps O ⟨t, l, r, rfl, _⟩; rfl
  rintro m Ps O ⟨t, l, r, rfl, rfl⟩
  refine bl_ret (ev_andV (K := K) (ev_call (F := FIsAsc K) (ea_cons (ev_var rfl) (ea_cons (ev_fld (P := di K l) (ps := [("things", di K t), ("labels", di K l)]) (ev_var rfl) clLabelWorld naLabelWorld_labels (by kernel_rfl)) ea_nil)) ⟨r, l, rfl, rfl⟩) (fun _ => ev_le (ev_cb (ea_cons (ev_var rfl) ea_nil) cb_lenT) (ev_fld (P := di K t) (ps := [("things", di K t), ("labels", di K l)]) (ev_var rfl) clLabelWorld naLabelWorld_things rfl))) ?_
  show db K _ = db K _
  unfold isRow
  rw [List.length_map, dec_nat]

theorem ok_LabelWorld_CheckRow {P : Program} {w : World} {K : PySem.W.Frag} {h : Heap} {mg : Str → Option Value} {base : Heap} (X : K.In h) (Gm : h.Ns mainGlobals mg) (c : He.SaysD fa fn K) : Dok P w K mg base CX0 4 (He.ma K (He.ga K "LabelWorld") "check_row") ["self", "value"] (spF (FCheckRow K)) := by
  obtain ⟨fd, F⟩ := c.def_ 7 (d := dLabelWorld_CheckRow) rfl
  refine ⟨fd, ?_, F.bindsN (ps := ["self", "value"]) fun _ _ _ _ _ _ us hl => match us, hl with | [_, _], _ => rfl, F.kp⟩
  obtain ⟨fdLabelWorld_IsRow, GLabelWorld_IsRow, bLabelWorld_IsRow, kpLabelWorld_IsRow⟩ := ok_LabelWorld_IsRow (P := P) (w := w) (base := base) X Gm c
  have clLabelWorld := He.cls_ok (c.fact 23 (f := .cls "LabelWorld") rfl)
  have naLabelWorld_things := He.noat_ok (c.fact 24 (f := .noat "LabelWorld" "things") rfl)
  have naLabelWorld_labels := He.noat_ok (c.fact 25 (f := .noat "LabelWorld" "labels") rfl)
  have mLabelWorld_IsRow := He.meth_ok (c.fact 27 (f := .meth "LabelWorld" "is_row") rfl)
  refine fn_ok (k := 3) F scLabelWorld_CheckRow ?len (fun cdv A outer s H E hr => ⟨_, PSs.nox (pss_one (ps_if (pt_not (pt_val (pe_meth (pv 0) clLabelWorld mLabelWorld_IsRow GLabelWorld_IsRow (hr.mono (by decide)) bLabelWorld_IsRow .nil pass0 (pa_cons (pv 1) pa_nil))))
  (pss_one ps_never) pss_nil)), ?_⟩)
  case len => rintro m Ps O ⟨t, l, r, _, rfl, _⟩; rfl
  rintro m Ps O ⟨t, l, r, hr0, rfl, rfl⟩
  refine bl_if (eb_not (eb_tB (ev_meth (F := FIsRow K) (S := db K (isRow t l r)) (ps := [("things", di K t), ("labels", di K l)]) (ev_var rfl) (by kernel_rfl) (ea_cons (ev_var rfl) ea_nil) ⟨t, l, r, rfl, rfl⟩))) (fun hb => (not_ff hr0 hb).elim) (fun _ => bl_next (fun _ => .non))

theorem ok_LabelWorld_Gaps {P : Program} {w : World} {K : PySem.W.Frag} {h : Heap} {mg : Str → Option Value} {base : Heap} (X : K.In h) (Gm : h.Ns mainGlobals mg) (c : He.SaysD fa fn K) : Dok P w K mg base CX0 5 (He.ma K (He.ga K "LabelWorld") "gaps") ["self", "standing"] (spF (FGaps K)) := by
  obtain ⟨fd, F⟩ := c.def_ 10 (d := dLabelWorld_Gaps) rfl
  refine ⟨fd, ?_, F.bindsN (ps := ["self", "standing"]) fun _ _ _ _ _ _ us hl => match us, hl with | [_, _], _ => rfl, F.kp⟩
  obtain ⟨fdLabelWorld_CheckRow, GLabelWorld_CheckRow, bLabelWorld_CheckRow, kpLabelWorld_CheckRow⟩ := ok_LabelWorld_CheckRow (P := P) (w := w) (base := base) X Gm c
  have mg_len := He.free_ok X Gm (c.fact 36 (f := .free "len") rfl)
  have mg_list := He.free_ok X Gm (c.fact 40 (f := .free "list") rfl)
  have mg_range := He.free_ok X Gm (c.fact 39 (f := .free "range") rfl)
  have clLabelWorld := He.cls_ok (c.fact 23 (f := .cls "LabelWorld") rfl)
  have naLabelWorld_things := He.noat_ok (c.fact 24 (f := .noat "LabelWorld" "things") rfl)
  have naLabelWorld_labels := He.noat_ok (c.fact 25 (f := .noat "LabelWorld" "labels") rfl)
  have mLabelWorld_CheckRow := He.meth_ok (c.fact 28 (f := .meth "LabelWorld" "check_row") rfl)
  refine fn_ok (k := 4) F scLabelWorld_Gaps ?len (fun cdv A outer s H E hr => ⟨_, PSs.nox (pss_cons (ps_expr (pe_meth (pv 0) clLabelWorld mLabelWorld_CheckRow GLabelWorld_CheckRow (hr.mono (by decide)) bLabelWorld_CheckRow .nil pass0 (pa_cons (pv 1) pa_nil)))
  (pss_cons (ps_if (pt_cmpR op_eq (pe_callB (call_lenK (K := K) rfl) (by rfl) mg_len PySem.boot_len (pa_cons (pv 1) pa_nil)) (pe_fldK (K := K) rfl (pv 0) rfl) (nomark _))
  (pss_one (ps_ret (pe_lst pa_nil))) pss_nil)
  (pss_one (ps_ret (pe_callTy (cr_listRng rfl) (by rfl) mg_list (by decide +kernel) (pa_cons (pe_callTy cr_range1 (by rfl) mg_range (by decide +kernel) (pa_cons (pe_op op_add (pe_callB (call_lenK (K := K) rfl) (by rfl) mg_len PySem.boot_len (pa_cons (pv 1) pa_nil)) pe_int) pa_nil)) pa_nil)))))), ?_⟩)
  case len => rintro m Ps O ⟨t, l, r, _, _, rfl, _⟩; rfl
  rintro m Ps O ⟨t, l, r, hr0, ht, rfl, rfl⟩
  have hlen : r.length ≤ t := by unfold isRow at hr0; simp at hr0; exact hr0.2
  refine bl_dropS (ev_meth (F := FCheckRow K) (S := dd K .none) (ps := [("things", di K t), ("labels", di K l)]) (ev_var rfl) (by kernel_rfl) (ea_cons (ev_var rfl) ea_nil) ⟨t, l, r, hr0, rfl, rfl⟩) ?_
  refine bl_ifR (eb_test (ev_eqI (K := K) (ev_cb (ea_cons (ev_var rfl) ea_nil) cb_lenT) (ev_fld (P := di K t) (ps := [("things", di K t), ("labels", di K l)]) (ev_var rfl) clLabelWorld naLabelWorld_things rfl))) (fun hb => ?_) (fun hb => ?_)
  · refine bl_retS (ev_lst (K := K) (ds := []) ea_nil (by decide)) ?_
    show dd K _ = dd K _
    have e := of_decide_eq_true hb
    rw [List.length_map] at e
    unfold gapsOf
    rw [if_pos (by omega)]
    rfl
  · refine bl_nextS (bl_ret (EvD.l2d (K := K) (ev_cb (ea_cons (ev_cb (ea_cons (ev_add (ev_cb (ea_cons (ev_var rfl) ea_nil) cb_lenT) ev_int) ea_nil) cb_rng1) ea_nil) (cb_listRng (by decide) (by decide) (by omega) (by rw [List.length_map]; omega) (by rw [List.length_map]; omega)))) ?_)
    show dd K _ = dd K _
    have e := of_decide_eq_false hb
    rw [List.length_map] at e
    unfold gapsOf
    rw [if_neg (by omega), List.length_map]
    have e2 : ((r.length : Int) + 1 - 0).toNat = r.length + 1 := by omega
    rw [e2]
    simp

theorem ok_LabelWorld_CheckGap {P : Program} {w : World} {K : PySem.W.Frag} {h : Heap} {mg : Str → Option Value} {base : Heap} (X : K.In h) (Gm : h.Ns mainGlobals mg) (c : He.SaysD fa fn K) : Dok P w K mg base CX0 6 (He.ma K (He.ga K "LabelWorld") "check_gap") ["self", "standing", "gap"] (spF (FCheckGap K)) := by
  obtain ⟨fd, F⟩ := c.def_ 8 (d := dLabelWorld_CheckGap) rfl
  refine ⟨fd, ?_, F.bindsN (ps := ["self", "standing", "gap"]) fun _ _ _ _ _ _ us hl => match us, hl with | [_, _, _], _ => rfl, F.kp⟩
  obtain ⟨fdIsInteger, GIsInteger, bIsInteger, kpIsInteger⟩ := ok_IsInteger (P := P) (w := w) (base := base) X Gm c
  have mg_is_integer := He.glo_ok X Gm (c.fact 0 (f := .glo "is_integer") rfl)
  obtain ⟨fdLabelWorld_CheckRow, GLabelWorld_CheckRow, bLabelWorld_CheckRow, kpLabelWorld_CheckRow⟩ := ok_LabelWorld_CheckRow (P := P) (w := w) (base := base) X Gm c
  obtain ⟨fdLabelWorld_Gaps, GLabelWorld_Gaps, bLabelWorld_Gaps, kpLabelWorld_Gaps⟩ := ok_LabelWorld_Gaps (P := P) (w := w) (base := base) X Gm c
  have clLabelWorld := He.cls_ok (c.fact 23 (f := .cls "LabelWorld") rfl)
  have naLabelWorld_things := He.noat_ok (c.fact 24 (f := .noat "LabelWorld" "things") rfl)
  have naLabelWorld_labels := He.noat_ok (c.fact 25 (f := .noat "LabelWorld" "labels") rfl)
  have mLabelWorld_CheckRow := He.meth_ok (c.fact 28 (f := .meth "LabelWorld" "check_row") rfl)
  have mLabelWorld_Gaps := He.meth_ok (c.fact 31 (f := .meth "LabelWorld" "gaps") rfl)
  refine fn_ok (k := 5) F scLabelWorld_CheckGap ?len (fun cdv A outer s H E hr => ⟨_, PSs.nox (pss_cons (ps_expr (pe_meth (pv 0) clLabelWorld mLabelWorld_CheckRow GLabelWorld_CheckRow (hr.mono (by decide)) bLabelWorld_CheckRow .nil pass0 (pa_cons (pv 1) pa_nil)))
  (pss_one (ps_if (PW.pt (pw_or (pt_not (pt_val (pe_call GIsInteger (hr.mono (by decide)) (by rfl) mg_is_integer kpIsInteger bIsInteger .nil pass0 (pa_cons (pv 2) pa_nil)))) (pw_or1 (pt_cmpR (op_notInK (K := K) rfl) (pv 2) (pe_meth (pv 0) clLabelWorld mLabelWorld_Gaps GLabelWorld_Gaps (hr.mono (by decide)) bLabelWorld_Gaps .nil pass0 (pa_cons (pv 1) pa_nil)) (by rfl)))))
  (pss_one ps_never) pss_nil))), ?_⟩)
  case len => rintro m Ps O ⟨t, l, g, r, _, _, _, _, rfl, _⟩; rfl
  rintro m Ps O ⟨t, l, g, r, hr0, ht, hlt, hg, rfl, rfl⟩
  refine bl_dropS (ev_meth (F := FCheckRow K) (S := dd K .none) (ps := [("things", di K t), ("labels", di K l)]) (ev_var rfl) (by kernel_rfl) (ea_cons (ev_var rfl) ea_nil) ⟨t, l, r, hr0, rfl, rfl⟩) ?_
  refine bl_if ((eb_or (eb_not (eb_tB (ev_call (F := FIsInteger K) (ea_cons (ev_var rfl) ea_nil) ⟨_, rfl, rfl⟩))) fun _ => eb_test (ev_niL (K := K) (ev_var rfl) (ev_meth (F := FGaps K) (ps := [("things", di K t), ("labels", di K l)]) (ev_var rfl) (by kernel_rfl) (ea_cons (ev_var rfl) ea_nil) ⟨t, l, r, hr0, ht, rfl, rfl⟩))).to (b' := false) ?_) (fun hb => by cases hb) (fun _ => bl_next (fun _ => .non))
  exact or_ff rfl (by rw [mem_gaps hlt hg]; rfl)

theorem ok_LabelWorld_Standings {P : Program} {w : World} {K : PySem.W.Frag} {h : Heap} {mg : Str → Option Value} {base : Heap} (X : K.In h) (Gm : h.Ns mainGlobals mg) (c : He.SaysD fa fn K) : Dok P w K mg base CX0 2 (He.ma K (He.ga K "LabelWorld") "standings") ["self"] (spF (FStandings K)) := by
  obtain ⟨fd, F⟩ := c.def_ 9 (d := dLabelWorld_Standings) rfl
  refine ⟨fd, ?_, F.bindsN (ps := ["self"]) fun _ _ _ _ _ _ us hl => match us, hl with | [_], _ => rfl, F.kp⟩
  obtain ⟨fdLabelRows, GLabelRows, bLabelRows, kpLabelRows⟩ := ok_LabelRows (P := P) (w := w) (base := base) X Gm c
  have mg_label_rows := He.glo_ok X Gm (c.fact 3 (f := .glo "label_rows") rfl)
  have mg_range := He.free_ok X Gm (c.fact 39 (f := .free "range") rfl)
  have clLabelWorld := He.cls_ok (c.fact 23 (f := .cls "LabelWorld") rfl)
  have naLabelWorld_things := He.noat_ok (c.fact 24 (f := .noat "LabelWorld" "things") rfl)
  have naLabelWorld_labels := He.noat_ok (c.fact 25 (f := .noat "LabelWorld" "labels") rfl)
  refine fn_ok (k := 1) F scLabelWorld_Standings ?len (fun cdv A outer s H E hr => ⟨_, PSs.nox (pss_one (ps_ret (pe_lc2 (own := [("many", 1), ("row", 2)]) (vs1 := [2]) (g := gName 1) (g1 := gName 2) (by rfl) scLabelWorld_Standings.nd (pi_range1 (by rfl) mg_range (pa_cons (pe_op op_add (pe_fldK (K := K) rfl (pv 0) rfl) pe_int) pa_nil)) (blkOk_by (own := [("many", 1), ("row", 2)]) (N := ["self", "many", "row"]) (sc := defScope sLabelWorld_Standings) (by decide +kernel)) (by decide) (fun _ _ _ _ _ => by exact (pg_name (i := 1) scLabelWorld_Standings.nd rfl (by first | exact Or.inl rfl | exact Or.inr rfl))) (fun _ _ _ _ _ => by exact pts_nil) (fun _ _ _ _ _ => by exact (pi_listK (K := K) rfl (pe_call GLabelRows (hr.mono (by decide)) (by rfl) mg_label_rows kpLabelRows bLabelRows .nil pass0 (pa_cons (pv 1) (pa_cons (pe_fldK (K := K) rfl (pv 0) rfl) pa_nil))))) (fun _ _ _ _ _ => by exact (pg_name (i := 2) scLabelWorld_Standings.nd rfl (by first | exact Or.inl rfl | exact Or.inr rfl))) (fun _ _ _ _ _ => by exact pts_nil) (fun _ _ _ _ _ => by exact (pv 2))))), ?_⟩)
  case len => rintro m Ps O ⟨t, l, _, rfl, _⟩; rfl
  rintro m Ps O ⟨t, l, hs, rfl, rfl⟩
  have hl := hs.ls; have ht := hs.t4
  refine bl_ret (ev_lc2 (K := K) (n1 := fun k => (K53.rows k l).length) (Y1 := fun k e => dd K (tupI ((K53.rows k l).getD e []))) (b := fun _ _ => true) (f := fun k e => tupI ((K53.rows k l).getD e []))
    (wk_rng1 (K := K) (ea_cons (ev_add (ev_fld (P := di K t) (ps := [("things", di K t), ("labels", di K l)]) (ev_var rfl) clLabelWorld naLabelWorld_things rfl) ev_int) ea_nil) (by omega) (by omega)) (by decide) (by decide) ?n ?n1 ?w ?t ?e) ?_
  case n =>
    intro q hq
    refine Nat.le_trans (K53.flatMap_len _ 3000 q fun j hj => ?_) (by omega)
    rw [filt_true, List.length_map, List.length_range]
    exact K53.rows_len hl (by omega)
  case n1 => exact fun i hi => Nat.le_trans (K53.rows_len hl (by omega)) (by decide)
  case w =>
    intro D o _ i hi
    have z := wk_list (K := K) (m := m.hold D o) (ev_call (F := FRows K) (E := E0) (ta := tCons (tVar 1) (tCons (tFld K (tVar 0) "labels") tNil)) (δ := [some (lw K t l), some (di K i), none]) (ea_cons (ev_var rfl) (ea_cons (ev_fld (P := di K l) (ps := [("things", di K t), ("labels", di K l)]) (ev_var rfl) clLabelWorld naLabelWorld_labels (by kernel_rfl)) ea_nil)) ⟨i, l, by omega, hl, rfl, rfl⟩)
    rw [List.length_map] at z
    refine WkD.to z fun j hj v G p => ?_
    rw [getD_tup hj] at p
    exact p
  case t => exact fun D o _ i k _ _ => eb_yes
  case e => exact fun D o _ i k _ _ _ => ev_var rfl
  show dd K _ = dd K _
  have e : ((t : Int) + 1).toNat = t + 1 := by omega
  rw [e, flat_rows]

theorem ok_LabelWorld_Nexts {P : Program} {w : World} {K : PySem.W.Frag} {h : Heap} {mg : Str → Option Value} {base : Heap} (X : K.In h) (Gm : h.Ns mainGlobals mg) (c : He.SaysD fa fn K) : Dok P w K mg base CX0 7 (He.ma K (He.ga K "LabelWorld") "nexts") ["self", "standing", "gap"] (spF (FNexts K)) := by
  obtain ⟨fd, F⟩ := c.def_ 11 (d := dLabelWorld_Nexts) rfl
  refine ⟨fd, ?_, F.bindsN (ps := ["self", "standing", "gap"]) fun _ _ _ _ _ _ us hl => match us, hl with | [_, _, _], _ => rfl, F.kp⟩
  obtain ⟨fdLabelRows, GLabelRows, bLabelRows, kpLabelRows⟩ := ok_LabelRows (P := P) (w := w) (base := base) X Gm c
  have mg_label_rows := He.glo_ok X Gm (c.fact 3 (f := .glo "label_rows") rfl)
  obtain ⟨fdLabelWorld_CheckGap, GLabelWorld_CheckGap, bLabelWorld_CheckGap, kpLabelWorld_CheckGap⟩ := ok_LabelWorld_CheckGap (P := P) (w := w) (base := base) X Gm c
  have mg_len := He.free_ok X Gm (c.fact 36 (f := .free "len") rfl)
  have clLabelWorld := He.cls_ok (c.fact 23 (f := .cls "LabelWorld") rfl)
  have naLabelWorld_things := He.noat_ok (c.fact 24 (f := .noat "LabelWorld" "things") rfl)
  have naLabelWorld_labels := He.noat_ok (c.fact 25 (f := .noat "LabelWorld" "labels") rfl)
  have mLabelWorld_CheckGap := He.meth_ok (c.fact 29 (f := .meth "LabelWorld" "check_gap") rfl)
  refine fn_ok (k := 6) F scLabelWorld_Nexts ?len (fun cdv A outer s H E hr => ⟨_, PSs.nox (pss_cons (ps_expr (pe_meth (pv 0) clLabelWorld mLabelWorld_CheckGap GLabelWorld_CheckGap (hr.mono (by decide)) bLabelWorld_CheckGap .nil pass0 (pa_cons (pv 1) (pa_cons (pv 2) pa_nil))))
  (pss_one (ps_ret (pe_call GLabelRows (hr.mono (by decide)) (by rfl) mg_label_rows kpLabelRows bLabelRows .nil pass0 (pa_cons (pe_op op_add (pe_callB (call_lenK (K := K) rfl) (by rfl) mg_len PySem.boot_len (pa_cons (pv 1) pa_nil)) pe_int) (pa_cons (pe_fldK (K := K) rfl (pv 0) rfl) pa_nil)))))), ?_⟩)
  case len => rintro m Ps O ⟨t, l, g, r, _, _, _, _, rfl, _⟩; rfl
  rintro m Ps O ⟨t, l, g, r, hs, hr0, hlt, hg, rfl, rfl⟩
  have hl := hs.ls; have ht := hs.t4
  refine bl_dropS (ev_meth (F := FCheckGap K) (S := dd K .none) (ps := [("things", di K t), ("labels", di K l)]) (ev_var rfl) (by kernel_rfl) (ea_cons (ev_var rfl) (ea_cons (ev_var rfl) ea_nil)) ⟨t, l, g, r, hr0, ht, hlt, hg, rfl, rfl⟩) ?_
  refine bl_ret (ev_call (F := FRows K) (ea_cons (ev_add (K := K) (ev_cb (ea_cons (ev_var rfl) ea_nil) cb_lenT) ev_int) (ea_cons (ev_fld (P := di K l) (ps := [("things", di K t), ("labels", di K l)]) (ev_var rfl) clLabelWorld naLabelWorld_labels (by kernel_rfl)) ea_nil)) ⟨r.length + 1, l, by omega, hl, ?_, rfl⟩) rfl
  rw [List.length_map]
  rfl

theorem ok_LabelWorld_Moved {P : Program} {w : World} {K : PySem.W.Frag} {h : Heap} {mg : Str → Option Value} {base : Heap} (X : K.In h) (Gm : h.Ns mainGlobals mg) (c : He.SaysD fa fn K) : Dok P w K mg base CX0 7 (He.ma K (He.ga K "LabelWorld") "moved") ["self", "standing", "gap", "goal"] (spF (FMoved K)) := by
  obtain ⟨fd, F⟩ := c.def_ 12 (d := dLabelWorld_Moved) rfl
  refine ⟨fd, ?_, F.bindsN (ps := ["self", "standing", "gap", "goal"]) fun _ _ _ _ _ _ us hl => match us, hl with | [_, _, _, _], _ => rfl, F.kp⟩
  obtain ⟨fdRelabelled, GRelabelled, bRelabelled, kpRelabelled⟩ := ok_Relabelled (P := P) (w := w) (base := base) X Gm c
  have mg_relabelled := He.glo_ok X Gm (c.fact 4 (f := .glo "relabelled") rfl)
  obtain ⟨fdLabelWorld_IsRow, GLabelWorld_IsRow, bLabelWorld_IsRow, kpLabelWorld_IsRow⟩ := ok_LabelWorld_IsRow (P := P) (w := w) (base := base) X Gm c
  obtain ⟨fdLabelWorld_CheckGap, GLabelWorld_CheckGap, bLabelWorld_CheckGap, kpLabelWorld_CheckGap⟩ := ok_LabelWorld_CheckGap (P := P) (w := w) (base := base) X Gm c
  have mg_len := He.free_ok X Gm (c.fact 36 (f := .free "len") rfl)
  have clLabelWorld := He.cls_ok (c.fact 23 (f := .cls "LabelWorld") rfl)
  have naLabelWorld_things := He.noat_ok (c.fact 24 (f := .noat "LabelWorld" "things") rfl)
  have naLabelWorld_labels := He.noat_ok (c.fact 25 (f := .noat "LabelWorld" "labels") rfl)
  have mLabelWorld_IsRow := He.meth_ok (c.fact 27 (f := .meth "LabelWorld" "is_row") rfl)
  have mLabelWorld_CheckGap := He.meth_ok (c.fact 29 (f := .meth "LabelWorld" "check_gap") rfl)
  refine fn_ok (k := 6) F scLabelWorld_Moved ?len (fun cdv A outer s H E hr => ⟨_, PSs.nox (pss_cons (ps_expr (pe_meth (pv 0) clLabelWorld mLabelWorld_CheckGap GLabelWorld_CheckGap (hr.mono (by decide)) bLabelWorld_CheckGap .nil pass0 (pa_cons (pv 1) (pa_cons (pv 2) pa_nil))))
  (pss_cons (ps_if (PW.pt (pw_or (pt_not (pt_val (pe_meth (pv 0) clLabelWorld mLabelWorld_IsRow GLabelWorld_IsRow (hr.mono (by decide)) bLabelWorld_IsRow .nil pass0 (pa_cons (pv 3) pa_nil)))) (pw_or1 (pt_cmpR op_ne (pe_callB (call_lenK (K := K) rfl) (by rfl) mg_len PySem.boot_len (pa_cons (pv 3) pa_nil)) (pe_op op_add (pe_callB (call_lenK (K := K) rfl) (by rfl) mg_len PySem.boot_len (pa_cons (pv 1) pa_nil)) pe_int) (nomark _)))))
  (pss_one ps_never) pss_nil)
  (pss_one (ps_ret (pe_call GRelabelled (hr.mono (by decide)) (by rfl) mg_relabelled kpRelabelled bRelabelled .nil pass0 (pa_cons (pv 1) (pa_cons (pv 2) (pa_cons (pv 3) pa_nil)))))))), ?_⟩)
  case len => rintro m Ps O ⟨t, l, g, r, s, _, _, _, _, _, _, rfl, _⟩; rfl
  rintro m Ps O ⟨t, l, g, r, s, ht, hr0, hlt, hg, hs0, hsl, rfl, rfl⟩
  refine bl_dropS (ev_meth (F := FCheckGap K) (S := dd K .none) (ps := [("things", di K t), ("labels", di K l)]) (ev_var rfl) (by kernel_rfl) (ea_cons (ev_var rfl) (ea_cons (ev_var rfl) ea_nil)) ⟨t, l, g, r, hr0, ht, hlt, hg, rfl, rfl⟩) ?_
  refine bl_ifR ((eb_or (eb_not (eb_tB (ev_meth (F := FIsRow K) (S := db K (isRow t l s)) (ps := [("things", di K t), ("labels", di K l)]) (ev_var rfl) (by kernel_rfl) (ea_cons (ev_var rfl) ea_nil) ⟨t, l, s, rfl, rfl⟩))) fun _ => eb_test (ev_neI (K := K) (ev_cb (ea_cons (ev_var rfl) ea_nil) cb_lenT) (ev_add (ev_cb (ea_cons (ev_var rfl) ea_nil) cb_lenT) ev_int))).to (b' := false) ?_) (fun hb => by cases hb) (fun _ => ?_)
  · exact or_ff (by rw [hs0]; rfl) (by rw [List.length_map, List.length_map, decide_eq_true (by omega)]; rfl)
  · exact bl_nextS (bl_ret (ev_call (F := FRelab K) (ea_cons (ev_var rfl) (ea_cons (ev_var rfl) (ea_cons (ev_var rfl) ea_nil))) ⟨r, s, g, by omega, by omega, rfl, rfl⟩) rfl)

theorem ok_LabelWorld_Left {P : Program} {w : World} {K : PySem.W.Frag} {h : Heap} {mg : Str → Option Value} {base : Heap} (X : K.In h) (Gm : h.Ns mainGlobals mg) (c : He.SaysD fa fn K) : Dok P w K mg base CX0 5 (He.ma K (He.ga K "LabelWorld") "left") ["self", "standing", "place"] (spF (FLeft K)) := by
  obtain ⟨fd, F⟩ := c.def_ 13 (d := dLabelWorld_Left) rfl
  refine ⟨fd, ?_, F.bindsN (ps := ["self", "standing", "place"]) fun _ _ _ _ _ _ us hl => match us, hl with | [_, _, _], _ => rfl, F.kp⟩
  obtain ⟨fdIsInteger, GIsInteger, bIsInteger, kpIsInteger⟩ := ok_IsInteger (P := P) (w := w) (base := base) X Gm c
  have mg_is_integer := He.glo_ok X Gm (c.fact 0 (f := .glo "is_integer") rfl)
  obtain ⟨fdWithout, GWithout, bWithout, kpWithout⟩ := ok_Without (P := P) (w := w) (base := base) X Gm c
  have mg_without := He.glo_ok X Gm (c.fact 2 (f := .glo "without") rfl)
  obtain ⟨fdLabelWorld_CheckRow, GLabelWorld_CheckRow, bLabelWorld_CheckRow, kpLabelWorld_CheckRow⟩ := ok_LabelWorld_CheckRow (P := P) (w := w) (base := base) X Gm c
  have mg_len := He.free_ok X Gm (c.fact 36 (f := .free "len") rfl)
  have clLabelWorld := He.cls_ok (c.fact 23 (f := .cls "LabelWorld") rfl)
  have naLabelWorld_things := He.noat_ok (c.fact 24 (f := .noat "LabelWorld" "things") rfl)
  have naLabelWorld_labels := He.noat_ok (c.fact 25 (f := .noat "LabelWorld" "labels") rfl)
  have mLabelWorld_CheckRow := He.meth_ok (c.fact 28 (f := .meth "LabelWorld" "check_row") rfl)
  refine fn_ok (k := 4) F scLabelWorld_Left ?len (fun cdv A outer s H E hr => ⟨_, PSs.nox (pss_cons (ps_expr (pe_meth (pv 0) clLabelWorld mLabelWorld_CheckRow GLabelWorld_CheckRow (hr.mono (by decide)) bLabelWorld_CheckRow .nil pass0 (pa_cons (pv 1) pa_nil)))
  (pss_cons (ps_if (PW.pt (pw_or (pt_not (pt_val (pe_call GIsInteger (hr.mono (by decide)) (by rfl) mg_is_integer kpIsInteger bIsInteger .nil pass0 (pa_cons (pv 2) pa_nil)))) (pw_or1 (pt_not (pt_chain op_le op_lt pe_int (pv 2) (pe_callB (call_lenK (K := K) rfl) (by rfl) mg_len PySem.boot_len (pa_cons (pv 1) pa_nil)))))))
  (pss_one ps_never) pss_nil)
  (pss_one (ps_ret (pe_call GWithout (hr.mono (by decide)) (by rfl) mg_without kpWithout bWithout .nil pass0 (pa_cons (pv 1) (pa_cons (pv 2) pa_nil))))))), ?_⟩)
  case len => rintro m Ps O ⟨t, l, g, r, _, _, _, rfl, _⟩; rfl
  rintro m Ps O ⟨t, l, g, r, ht, hr0, hg, rfl, rfl⟩
  have hlen : r.length ≤ t := by unfold isRow at hr0; simp at hr0; exact hr0.2
  refine bl_dropS (ev_meth (F := FCheckRow K) (S := dd K .none) (ps := [("things", di K t), ("labels", di K l)]) (ev_var rfl) (by kernel_rfl) (ea_cons (ev_var rfl) ea_nil) ⟨t, l, r, hr0, rfl, rfl⟩) ?_
  refine bl_ifR ((eb_or (eb_not (eb_tB (ev_call (F := FIsInteger K) (ea_cons (ev_var rfl) ea_nil) ⟨_, rfl, rfl⟩))) fun _ => eb_not (eb_test (ev_chain (K := K) (f := fun i j => decide (i ≤ j)) (g := fun i j => decide (i < j)) ev_int (ev_var rfl) (ev_cb (ea_cons (ev_var rfl) ea_nil) cb_lenT)))).to (b' := false) ?_) (fun hb => by cases hb) (fun _ => ?_)
  · exact or_ff rfl (by rw [List.length_map, decide_eq_true (by omega), decide_eq_true (by omega)]; rfl)
  · exact bl_nextS (bl_ret (ev_call (F := FWithout K) (ea_cons (ev_var rfl) (ea_cons (ev_var rfl) ea_nil)) ⟨r, g, by omega, rfl, rfl⟩) rfl)

theorem ok_LMixed {P : Program} {w : World} {K : PySem.W.Frag} {h : Heap} {mg : Str → Option Value} {base : Heap} (X : K.In h) (Gm : h.Ns mainGlobals mg) (c : He.SaysD fa fn K) : Dok P w K mg base CX0 1 (He.ga K "_law_mixed") ["_law_number", "_law_step"] (spF (FMixed K)) := by
  obtain ⟨fd, F⟩ := c.def_ 16 (d := dLMixed) rfl
  refine ⟨fd, ?_, F.bindsN (ps := ["_law_number", "_law_step"]) fun _ _ _ _ _ _ us hl => match us, hl with | [_, _], _ => rfl, F.kp⟩
  have mg_int := He.free_ok X Gm (c.fact 37 (f := .free "int") rfl)
  have clLabelWorld := He.cls_ok (c.fact 23 (f := .cls "LabelWorld") rfl)
  have naLabelWorld_things := He.noat_ok (c.fact 24 (f := .noat "LabelWorld" "things") rfl)
  have naLabelWorld_labels := He.noat_ok (c.fact 25 (f := .noat "LabelWorld" "labels") rfl)
  refine fn_ok (k := 0) F scLMixed ?len (fun cdv A outer s H E hr => ⟨_, PSs.nox (pss_cons (ps_set (i := 0) scLMixed.nd rfl (by first | exact Or.inl rfl | exact Or.inr rfl) (pe_op op_mod (pe_callTy call_int1 (by rfl) mg_int (by decide +kernel) (pa_cons (pe_op op_add (pe_op op_add (pe_op op_mul (pv 0) pe_int) (pe_op op_mul pe_int (pv 1))) pe_int) pa_nil)) pe_int))
  (pss_cons (ps_set (i := 0) scLMixed.nd rfl (by first | exact Or.inl rfl | exact Or.inr rfl) (pe_op op_mod (pe_callTy call_int1 (by rfl) mg_int (by decide +kernel) (pa_cons (pe_op op_mul (pv 0) (pe_op op_add (pe_op op_fdiv (pv 0) pe_int) pe_int)) pa_nil)) pe_int))
  (pss_one (ps_ret (pe_op op_mod (pe_callTy call_int1 (by rfl) mg_int (by decide +kernel) (pa_cons (pe_op op_mul (pv 0) (pe_op op_add (pe_op op_fdiv (pv 0) pe_int) pe_int)) pa_nil)) pe_int))))), ?_⟩)
  case len => rintro m Ps O ⟨n, s, rfl, _⟩; rfl
  rintro m Ps O ⟨n, s, rfl, rfl⟩
  refine bl_set (P := di K (mix1 n s)) (ev_mod (K := K) (ev_cb (ea_cons (ev_add (ev_add (ev_mul (ev_var rfl) ev_int (.inr ⟨by decide, by decide⟩)) (ev_mul ev_int (ev_var rfl) (.inl ⟨by decide, by decide⟩))) ev_int) ea_nil) cb_int) ev_int (by decide)) ?_
  have b1 := mod_bd (n * 48271 + 7919 * s + 30103)
  refine bl_set (P := di K (mix2 (mix1 n s))) (ev_mod (K := K) (ev_cb (ea_cons (ev_mul (ev_var rfl) (ev_add (ev_fdiv (ev_var rfl) ev_int ⟨by decide, by decide⟩) ev_int) (.inl ⟨by unfold mix1; omega, by unfold mix1; omega⟩)) ea_nil) cb_int) ev_int (by decide)) ?_
  have b2 := mod_bd (mix1 n s * (mix1 n s / 1009 + 69621))
  refine bl_ret (ev_mod (K := K) (ev_cb (ea_cons (ev_mul (ev_var rfl) (ev_add (ev_fdiv (ev_var rfl) ev_int ⟨by decide, by decide⟩) ev_int) (.inl ⟨by unfold mix2; omega, by unfold mix2; omega⟩)) ea_nil) cb_int) ev_int (by decide)) rfl

theorem ok_LStream {P : Program} {w : World} {K : PySem.W.Frag} {h : Heap} {mg : Str → Option Value} {base : Heap} (X : K.In h) (Gm : h.Ns mainGlobals mg) (c : He.SaysD fa fn K) : Dok P w K mg base CX0 1 (He.ga K "_law_stream") ["_law_script"] (spStream K) := by
  obtain ⟨fd, F⟩ := c.def_ 15 (d := dLStream) rfl
  refine ⟨fd, ?_, F.bindsN (ps := ["_law_script"]) fun _ _ _ _ _ _ us hl => match us, hl with | [_], _ => rfl, F.kp⟩
  have mg_int := He.free_ok X Gm (c.fact 37 (f := .free "int") rfl)
  have mg_list := He.free_ok X Gm (c.fact 40 (f := .free "list") rfl)
  have clLabelWorld := He.cls_ok (c.fact 23 (f := .cls "LabelWorld") rfl)
  have naLabelWorld_things := He.noat_ok (c.fact 24 (f := .noat "LabelWorld" "things") rfl)
  have naLabelWorld_labels := He.noat_ok (c.fact 25 (f := .noat "LabelWorld" "labels") rfl)
  refine F.ok scLStream ?len (fun cdv A outer s H vs Q E hr hsp => ⟨_, PSs.nox (pss_cons (ps_set (i := 1) scLStream.nd rfl (by first | exact Or.inl rfl | exact Or.inr rfl) (pe_callTy (call_listK (K := K) rfl) (by rfl) mg_list (by decide +kernel) (pa_cons (pe_slice (sl_listK (K := K) rfl) (pv 0) po_none (po_some pe_int)) pa_nil)))
  (pss_cons (ps_set (i := 2) scLStream.nd rfl (by first | exact Or.inl rfl | exact Or.inr rfl) pe_int)
  (pss_cons (ps_for PassesOwn.never rfl (pi_listK (K := K) rfl (pv 1)) (pg_name (i := 3) scLStream.nd rfl (by first | exact Or.inl rfl | exact Or.inr rfl))
  (pss_one (ps_set (i := 2) scLStream.nd rfl (by first | exact Or.inl rfl | exact Or.inr rfl) (pe_op op_mod (pe_callTy call_int1 (by rfl) mg_int (by decide +kernel) (pa_cons (pe_op op_add (pe_op op_mul (pv 2) pe_int) (pv 3)) pa_nil)) pe_int))))
  (pss_one (ps_ret (pe_lst (pa_cons (pv 1) (pa_cons pe_int (pa_cons pe_int (pa_cons (pv 2) (pa_cons pe_int pa_nil))))))))))), ?_⟩)
  case len => rintro vs H Q E ⟨a, ns, rfl, _⟩; rfl
  obtain ⟨a, ns, rfl, hS, hQ⟩ := hsp
  refine ⟨_, rfl, 63, rfl, a, _, rfl, hS, fun p hp => ?_⟩
  refine ⟨p, _, rfl, .inl (.inl (.inl upd_same)), fun cl hcl => ?_⟩
  have npc : cl ≠ p := fun e => by rw [e, upd_same] at hcl; cases hcl
  have hclH : H cl = none := by rw [upd_ne npc] at hcl; exact hcl
  have s1 : Same H (upd (upd H p (.lst (cutV (ns.map V.int) none (some 63)))) cl (.lst (cutV (ns.map V.int) none (some 63)))) := fun b o e => by
    rw [upd_ne (ne_of_none e hclH), upd_ne (ne_of_none e hp)]; exact e
  rw [cut_ints] at s1 ⊢
  refine ⟨_, rfl, cl, rfl, ⟨_, .inl (.inl upd_same)⟩, for_list (K := K) (a := cl) (xs := (ndCut ns none (some 63)).map V.int) (fun i σ H' => ∃ (seed : Int) (v : Option V), 0 ≤ seed ∧ seed < 2147483647 ∧ σ = [some (.ref a), some (.ref cl), some (.int seed), v] ∧ H' = upd (upd H p (.lst ((ndCut ns none (some 63)).map V.int))) cl (.lst ((ndCut ns none (some 63)).map V.int)))
    ⟨11, none, by decide, by decide, rfl, rfl⟩ (fun i σ H' _ ⟨_, _, _, _, _, e⟩ => by rw [e]; exact .inl (.inl upd_same)) ?_ ?_⟩
  · rintro i y σ H' hi ⟨seed, v, h0, h1, rfl, rfl⟩
    obtain ⟨z, rfl⟩ : ∃ z, y = V.int z := by
      rw [List.getElem?_map] at hi
      cases e : (ndCut ns none (some 63))[i]? with
      | none => rw [e] at hi; cases hi
      | some z => rw [e] at hi; exact ⟨z, (Option.some.inj hi).symm⟩
    refine ⟨_, rfl, seed, 37, rfl, rfl, .inl ⟨by omega, by omega⟩, _, rfl, _, _, rfl, rfl, .inl ⟨_, rfl, _, _, rfl, rfl, (by show (0 : Int) < 2147483647; decide), ?_⟩⟩
    have b := mod_bd (seed * 37 + z)
    exact ⟨_, some (.int z), b.1, b.2, rfl, rfl⟩
  · rintro σ H' ⟨seed, v, h0, h1, rfl, rfl⟩
    refine ⟨_, rfl, _, rfl, by show 5 ≤ sizeLine; decide, fun st hst => ?_⟩
    have nst : st ≠ cl := fun e => by rw [e, upd_same] at hst; cases hst
    have nst2 : st ≠ p := fun e => by rw [upd_ne nst, e, upd_same] at hst; cases hst
    have hstH : H st = none := by rw [upd_ne nst, upd_ne nst2] at hst; exact hst
    refine hQ st cl _ (Ne.symm nst) hstH hclH (s1.trans fun b o e => ?_) ⟨ndCut ns none (some 63), 0, 0, seed, 0, upd_same, ?_, by decide, by decide, h0, h1⟩
    · rw [upd_ne (ne_of_none e hst)]; exact e
    · rw [upd_ne (Ne.symm nst), upd_same]

theorem ok_LInt {P : Program} {w : World} {K : PySem.W.Frag} {h : Heap} {mg : Str → Option Value} {base : Heap} (X : K.In h) (Gm : h.Ns mainGlobals mg) (c : He.SaysD fa fn K) : Dok P w K mg base CX0 1 (He.ga K "_law_int") ["_law_value"] (spF (FIsInteger K)) := by
  obtain ⟨fd, F⟩ := c.def_ 18 (d := dLInt) rfl
  refine ⟨fd, ?_, F.bindsN (ps := ["_law_value"]) fun _ _ _ _ _ _ us hl => match us, hl with | [_], _ => rfl, F.kp⟩
  have mg_bool := He.free_ok X Gm (c.fact 42 (f := .free "bool") rfl)
  have mg_int := He.free_ok X Gm (c.fact 37 (f := .free "int") rfl)
  have mg_isinstance := He.free_ok X Gm (c.fact 38 (f := .free "isinstance") rfl)
  have clLabelWorld := He.cls_ok (c.fact 23 (f := .cls "LabelWorld") rfl)
  have naLabelWorld_things := He.noat_ok (c.fact 24 (f := .noat "LabelWorld" "things") rfl)
  have naLabelWorld_labels := He.noat_ok (c.fact 25 (f := .noat "LabelWorld" "labels") rfl)
  refine fn_ok (k := 0) F scLInt ?len (fun cdv A outer s H E hr => ⟨_, PSs.nox (pss_one (ps_ret (pe_and (pe_callB (call_isiK' (K := K) rfl) (by rfl) mg_isinstance (by decide +kernel) (pa_cons (pv 0) (pa_cons (pe_bltn (v := .ty "int") (by rfl) mg_int (by decide +kernel) rfl) pa_nil))) (pe_one (pe_not (pe_callB (call_isiK' (K := K) rfl) (by rfl) mg_isinstance (by decide +kernel) (pa_cons (pv 0) (pa_cons (pe_bltn (v := .ty "bool") (by rfl) mg_bool (by decide +kernel) rfl) pa_nil)))))))), ?_⟩)
  case len => rintro m Ps O ⟨d, rfl, _⟩; rfl
  rintro m Ps O ⟨d, rfl, rfl⟩
  refine bl_ret (ev_andV (K := K) (ev_cb (ea_cons (ev_var rfl) (ea_cons ev_val ea_nil)) cb_isiInt) (fun _ => ev_notV (ev_cb (ea_cons (ev_var rfl) (ea_cons ev_val ea_nil)) cb_isiBool))) ?_
  show db K _ = db K _
  cases d <;> rfl

end Law

namespace Law
open PySem PySem.Spec PyProof.Rows L2 Nd

def rInt1 : List V → Hp → VK → Prop := fun xs H Q => (∃ i, xs = [V.int i] ∧ Q (.int i) H) ∨ ∃ k, xs = [V.bl k] ∧ Q (.int (if k then 1 else 0)) H
def tSt (K : PySem.W.Frag) (k : Int) : TE := tOp (rIxL K) (tVar 0) (tC (.int k))
def tMixed (K : PySem.W.Frag) (tn : TE) : TS := tRet (tOp (rI (fun _ j => 0 < j) fun i j => .int (i % j)) (tCB rInt1 (tCons (tCall (spF (FMixed K)) [] E0 (tCons tn (tCons (tSt K 4) tNil))) tNil)) (tVar 1))
def tStep (K : PySem.W.Frag) : TS := tAsg (tOp (rI0 fun i j => .int (i + j)) (tSt K 4) (tC (.int 1))) (gSub (tVar 0) (tC (.int 4)) rSetL)
def tDrawRest (K : PySem.W.Frag) : TS := tSeq (tIfS (tTest (tOp (rI0 fun i j => .bl (decide (j < i))) (tSt K 2) (tC (.int 0))))
    (tSeq (tAsg (tOp (rI (fun _ j => 0 < j) fun i j => .int (i % j)) (tCB rInt1 (tCons (tSt K 2) tNil)) (tVar 1)) (gName 3))
    (tSeq (tAsg (tOp (rI CDiv fun i j => .int (i / j)) (tSt K 2) (tVar 1)) (gSub (tVar 0) (tC (.int 2)) rSetL)) (tRet (tVar 3)))) tNext)
  (tSeq (tStep K) (tMixed K (tSt K 3)))
/-- the stream's five items -/
def stL (cl : Addr) (i big seed step : Int) : List V := [.ref cl, .int i, .int big, .int seed, .int step]
theorem rd_st {K : PySem.W.Frag} {σ : L2.St} {H : Hp} {Q : VK} {st : Addr} {xs : List V} {k : Int} {v : V} (h0 : σ[0]? = some (some (.ref st))) (h : H st = some (.lst xs)) (ha : L2.atI xs k = some v) (q : Q v H) : tSt K k σ H Q := ⟨_, h0, st, xs, k, v, rfl, rfl, .inl (.inl h), ha, q⟩
/-- what is promised of a draw, from a heap in which the stream is so -/
theorem mixed_run {K : PySem.W.Frag} {σ : L2.St} {H : Hp} {D : Ends} {st cl : Addr} {many n i big seed step : Int} {tn : TE} (h0 : σ[0]? = some (some (.ref st))) (h1 : σ[1]? = some (some (.int many))) (h : H st = some (.lst (stL cl i big seed step))) (hm : 0 < many) (hn : ∀ Q : VK, Q (.int n) H → tn σ H Q)
    (q : ∀ (d : Int) (H' : Hp), Same H H' → 0 ≤ d → d < many → D.rt (.int d) H') : tMixed K tn D σ H := by
  refine hn _ ?_
  refine rd_st (v := .int step) h0 h rfl ?_
  refine ⟨pureM, H, _, _, ⟨n, step, rfl, rfl⟩, ⟨Same.refl H, trivial, fun _ z => z.elim⟩, .cons (.int n) (.cons (.int step) .nil), ?_⟩
  intro v G' H' g p
  cases p
  refine .inl ⟨_, rfl, _, h1, _, _, rfl, rfl, hm, q _ H' (fun a o e => g.r a o (fun z => z) e) (Int.emod_nonneg _ (by omega)) (Int.emod_lt_of_pos _ hm)⟩
theorem step_run {K : PySem.W.Frag} {σ : L2.St} {H : Hp} {D : Ends} {st cl : Addr} {i big seed step : Int} (h0 : σ[0]? = some (some (.ref st))) (h : H st = some (.lst (stL cl i big seed step))) (q : D.nx σ (upd H st (.lst (stL cl i big seed (step + 1))))) : tStep K D σ H := by
  refine rd_st (v := .int step) h0 h rfl ?_
  exact ⟨step, 1, rfl, rfl, _, h0, st, _, 4, 4, rfl, rfl, h, rfl, q⟩
theorem rest_run {K : PySem.W.Frag} {σ : L2.St} {H : Hp} {D : Ends} {st cl : Addr} {many i big seed step : Int} {c t : Option V} (hσ : σ = [some (.ref st), some (.int many), c, t]) (h : H st = some (.lst (stL cl i big seed step))) (hm : 0 < many) (hm2 : many < 1000000000) (hb : 0 ≤ big)
    (q : ∀ (d i' big' step' : Int) (H' : Hp), Same (upd H st (.lst (stL cl i big' seed step'))) H' → 0 ≤ big' → 0 ≤ d → d < many → D.rt (.int d) H') : tDrawRest K D σ H := by
  subst hσ
  refine rd_st (v := .int big) rfl h rfl ?_
  refine ⟨big, 0, rfl, rfl, _, rfl, ?_⟩
  by_cases hpos : 0 < big
  · rw [decide_eq_true hpos]
    dsimp only
    rw [if_pos rfl]
    refine rd_st (v := .int big) rfl h rfl ?_
    refine .inl ⟨_, rfl, _, rfl, big, many, rfl, rfl, hm, ?_⟩
    refine rd_st (v := .int big) rfl h rfl ?_
    refine ⟨_, rfl, big, many, rfl, rfl, ⟨hm, by omega⟩, _, rfl, st, _, 2, 2, rfl, rfl, h, rfl, _, rfl, ?_⟩
    exact q (big % many) i (big / many) step _ (Same.refl _) (Int.ediv_nonneg hb (by omega)) (Int.emod_nonneg _ (by omega)) (Int.emod_lt_of_pos _ hm)
  · rw [decide_eq_false hpos]
    dsimp only
    rw [if_neg Bool.false_ne_true]
    refine step_run rfl h ?_
    refine mixed_run (n := seed) rfl rfl upd_same hm (fun Q qq => rd_st rfl upd_same rfl qq) fun d H' s h1 h2 => q d i big (step + 1) H' s hb h1 h2

theorem ok_LDraw {P : Program} {w : World} {K : PySem.W.Frag} {h : Heap} {mg : Str → Option Value} {base : Heap} (X : K.In h) (Gm : h.Ns mainGlobals mg) (c : He.SaysD fa fn K) : Dok P w K mg base CX0 2 (He.ga K "_law_draw") ["_law_stream_here", "_law_many"] (spF (FDraw K)) := by
  obtain ⟨fd, F⟩ := c.def_ 17 (d := dLDraw) rfl
  refine ⟨fd, ?_, F.bindsN (ps := ["_law_stream_here", "_law_many"]) fun _ _ _ _ _ _ us hl => match us, hl with | [_, _], _ => rfl, F.kp⟩
  obtain ⟨fdLMixed, GLMixed, bLMixed, kpLMixed⟩ := ok_LMixed (P := P) (w := w) (base := base) X Gm c
  have mg__law_mixed := He.glo_ok X Gm (c.fact 6 (f := .glo "_law_mixed") rfl)
  have mg_int := He.free_ok X Gm (c.fact 37 (f := .free "int") rfl)
  have mg_len := He.free_ok X Gm (c.fact 36 (f := .free "len") rfl)
  have clLabelWorld := He.cls_ok (c.fact 23 (f := .cls "LabelWorld") rfl)
  have naLabelWorld_things := He.noat_ok (c.fact 24 (f := .noat "LabelWorld" "things") rfl)
  have naLabelWorld_labels := He.noat_ok (c.fact 25 (f := .noat "LabelWorld" "labels") rfl)
  refine F.ok scLDraw ?len (fun cdv A outer s H vs Q E hr hsp => ⟨_, PSs.nox (pss_cons (ps_if (PW.pt (pw_and (pt_cmpR op_eq (pe_ix (ix_listK (K := K) rfl) (pv 0) pe_int (fun _ _ => rfl)) pe_int (nomark _)) (pw_and1 (pt_cmpR op_lt (pe_ix (ix_listK (K := K) rfl) (pv 0) pe_int (fun _ _ => rfl)) (pe_callB (call_lenK (K := K) rfl) (by rfl) mg_len PySem.boot_len (pa_cons (pe_ix (ix_listK (K := K) rfl) (pv 0) pe_int (fun _ _ => rfl)) pa_nil)) (nomark _)))))
  (pss_cons (ps_set (i := 2) scLDraw.nd rfl (by first | exact Or.inl rfl | exact Or.inr rfl) (pe_ix (ix_listK (K := K) rfl) (pe_ix (ix_listK (K := K) rfl) (pv 0) pe_int (fun _ _ => rfl)) (pe_ix (ix_listK (K := K) rfl) (pv 0) pe_int (fun _ _ => rfl)) (fun _ _ => rfl)))
  (pss_cons (ps_asg (pe_op op_add (pe_ix (ix_listK (K := K) rfl) (pv 0) pe_int (fun _ _ => rfl)) pe_int) (pg_sub (pv 0) pe_int set_list))
  (pss_cons (ps_if (pt_cmpR op_lt (pv 2) (pe_op op_pow pe_int pe_int) (nomark _))
  (pss_cons (ps_asg (pe_op op_add (pe_ix (ix_listK (K := K) rfl) (pv 0) pe_int (fun _ _ => rfl)) pe_int) (pg_sub (pv 0) pe_int set_list))
  (pss_one (ps_ret (pe_op op_mod (pe_callTy call_int1 (by rfl) mg_int (by decide +kernel) (pa_cons (pe_call GLMixed (hr.mono (by decide)) (by rfl) mg__law_mixed kpLMixed bLMixed .nil pass0 (pa_cons (pv 2) (pa_cons (pe_ix (ix_listK (K := K) rfl) (pv 0) pe_int (fun _ _ => rfl)) pa_nil))) pa_nil)) (pv 1))))) pss_nil)
  (pss_one (ps_asg (pv 2) (pg_sub (pv 0) pe_int set_list)))))) pss_nil)
  (pss_cons (ps_if (pt_cmpR op_gt (pe_ix (ix_listK (K := K) rfl) (pv 0) pe_int (fun _ _ => rfl)) pe_int (nomark _))
  (pss_cons (ps_set (i := 3) scLDraw.nd rfl (by first | exact Or.inl rfl | exact Or.inr rfl) (pe_op op_mod (pe_callTy call_int1 (by rfl) mg_int (by decide +kernel) (pa_cons (pe_ix (ix_listK (K := K) rfl) (pv 0) pe_int (fun _ _ => rfl)) pa_nil)) (pv 1)))
  (pss_cons (ps_asg (pe_op op_fdiv (pe_ix (ix_listK (K := K) rfl) (pv 0) pe_int (fun _ _ => rfl)) (pv 1)) (pg_sub (pv 0) pe_int set_list))
  (pss_one (ps_ret (pv 3))))) pss_nil)
  (pss_cons (ps_asg (pe_op op_add (pe_ix (ix_listK (K := K) rfl) (pv 0) pe_int (fun _ _ => rfl)) pe_int) (pg_sub (pv 0) pe_int set_list))
  (pss_one (ps_ret (pe_op op_mod (pe_callTy call_int1 (by rfl) mg_int (by decide +kernel) (pa_cons (pe_call GLMixed (hr.mono (by decide)) (by rfl) mg__law_mixed kpLMixed bLMixed .nil pass0 (pa_cons (pe_ix (ix_listK (K := K) rfl) (pv 0) pe_int (fun _ _ => rfl)) (pa_cons (pe_ix (ix_listK (K := K) rfl) (pv 0) pe_int (fun _ _ => rfl)) pa_nil))) pa_nil)) (pv 1))))))), ?_⟩)
  case len => rintro vs H Q E ⟨m, G, Ps, O, ⟨st, cl, many, hd, rfl, _⟩, c, a, _⟩; rw [a.length]; rfl
  obtain ⟨m, G, Ps, O, ⟨st, cl, many, hd, rfl, hm, hm2, rfl⟩, c, al, q⟩ := hsp
  obtain ⟨v, w, rfl, p, r⟩ := all2_two al
  cases (show v = V.ref st from p)
  cases r
  obtain ⟨cells, i, big, seed, step, hst, hcl, hi, hbig, hs1, hs2⟩ := hd.inv H c.iv
  -- the end of every way: the stream is again a stream, all else stands
  have fin : ∀ (d i' big' step' : Int) (H0 H' : Hp), (∀ a o, a ≠ st → H a = some o → H0 a = some o) → Same (upd H0 st (.lst (stL cl i' big' seed step'))) H' → 0 ≤ i' → 0 ≤ big' → 0 ≤ d → d < many → Q (.int d) H' := by
    intro d i' big' step' H0 H' k s hi' hb' h1 h2
    have kk : ∀ a o, a ≠ st → H a = some o → H' a = some o := fun a o ne e => s a o (by rw [upd_ne ne]; exact k a o ne e)
    have str : StrI H' st cl := ⟨cells, i', big', seed, step', s _ _ upd_same, kk _ _ hd.ne hcl, hi', hb', hs1, hs2⟩
    refine q (.int d) G H' ⟨Same.refl G, fun a o e => kk a o (fun z => ?_) (c.gh a o e), fun a o e n => (by rw [e] at n; cases n), fun a o z e => kk a o (fun w => z (by rw [w]; exact hd.chg)) e, hd.back H H' c.iv kk str⟩ ⟨d, ⟨h1, h2⟩, .int d⟩
    rw [z, c.nm st hd.chg] at e; cases e
  have cls : ∀ (H0 : Hp), (∀ a o, a ≠ st → H a = some o → H0 a = some o) → ∀ x, ∀ a o, a ≠ st → H a = some o → (upd H0 st x) a = some o := fun H0 k x a o ne e => by rw [upd_ne ne]; exact k a o ne e
  show (tSeq _ (tDrawRest K)) _ _ _
  refine rd_st (v := .int big) rfl hst rfl ?_
  refine ⟨rfl, _, rfl, ?_⟩
  rw [Nd.dec_int]
  dsimp only
  by_cases hb0 : big = 0
  · rw [decide_eq_true hb0, if_pos rfl]
    refine rd_st (v := .int i) rfl hst rfl ?_
    refine rd_st (v := .ref cl) rfl hst rfl ?_
    refine ⟨cl, _, rfl, .inl (.inl (.inl hcl)), i, _, rfl, rfl, _, rfl, ?_⟩
    dsimp only
    by_cases hil : i < ((cells.map V.int).length : Int)
    · rw [decide_eq_true hil, if_pos rfl]
      refine rd_st (v := .ref cl) rfl hst rfl ?_
      refine rd_st (v := .int i) rfl hst rfl ?_
      refine ⟨cl, _, i, _, rfl, rfl, .inl (.inl hcl), cells_at hi hil, ?_⟩
      refine rd_st (v := .int i) rfl hst rfl ?_
      refine ⟨i, 1, rfl, rfl, _, rfl, st, _, 1, 1, rfl, rfl, hst, rfl, ?_⟩
      refine ⟨_, rfl, 10, 18, rfl, rfl, ⟨by decide, by decide, by decide⟩, _, _, rfl, rfl, _, rfl, ?_⟩
      dsimp only
      have hst1 : upd H st (.lst (stL cl (i + 1) big seed step)) st = some (.lst (stL cl (i + 1) big seed step)) := upd_same
      by_cases hcell : cells.getD i.toNat 0 < 10 ^ (18 : Int).toNat
      · rw [decide_eq_true hcell, if_pos rfl]
        refine step_run rfl hst1 ?_
        show tMixed K (tVar 2) _ _ _
        refine mixed_run (n := cells.getD i.toNat 0) rfl rfl upd_same hm (fun Q qq => ⟨_, rfl, qq⟩) ?_
        exact fun d H' s' h1 h2 => fin d (i + 1) big (step + 1) (upd H st (.lst (stL cl (i + 1) big seed step))) H' (cls H (fun a o _ e => e) _) s' (by omega) hbig h1 h2
      · rw [decide_eq_false hcell, if_neg Bool.false_ne_true]
        refine ⟨_, rfl, _, rfl, st, _, 2, 2, rfl, rfl, hst1, rfl, ?_⟩
        have hc0 : 0 ≤ cells.getD i.toNat 0 := by
          have : (10 : Int) ^ (18 : Int).toNat = 1000000000000000000 := by decide
          omega
        exact rest_run (cl := cl) (i := i + 1) (big := cells.getD i.toNat 0) (seed := seed) (step := step) rfl upd_same hm hm2 hc0 fun d i' big' step' H' s' h0 h1 h2 => fin d (i + 1) big' step' (upd (upd H st (.lst (stL cl (i + 1) big seed step))) st (.lst (stL cl (i + 1) (cells.getD i.toNat 0) seed step))) H' (cls _ (cls H (fun a o _ e => e) _) _) s' (by omega) h0 h1 h2
    · rw [decide_eq_false hil, if_neg Bool.false_ne_true]
      exact rest_run (cl := cl) (i := i) (big := big) (seed := seed) (step := step) rfl hst hm hm2 hbig fun d i' big' step' H' s h0 h1 h2 => fin d i big' step' H H' (fun a o _ e => e) s hi h0 h1 h2
  · rw [decide_eq_false hb0, if_neg Bool.false_ne_true]
    exact rest_run (cl := cl) (i := i) (big := big) (seed := seed) (step := step) rfl hst hm hm2 hbig fun d i' big' step' H' s h0 h1 h2 => fin d i big' step' H H' (fun a o _ e => e) s hi h0 h1 h2

end Law

namespace Law
open PySem PySem.Spec PyProof.Rows L2 Nd

def FService (K : PySem.W.Frag) : Md → List Pd → Oc → Prop := fun m Ps O => ∃ st cl, Dr m st cl ∧ Ps = [vv (.ref st)] ∧ O = .ret (exP (fun p : Nat × Nat => Svc p.1 p.2) fun p => lw K p.1 p.2)
def FMirrored (K : PySem.W.Frag) : Md → List Pd → Oc → Prop := fun _ Ps O => ∃ (r : List Int) (l : Int), r.length ≤ 1000 ∧ Ps = [dd K (tupI r), di K l] ∧ O = .ret (dd K (tupI (K53.mirror l r)))
def FFree (K : PySem.W.Frag) : Md → List Pd → Oc → Prop := fun _ Ps O => ∃ (r : List Int) (g : Nat) (l : Int), g ≤ r.length ∧ r.length ≤ 1000 ∧ Ps = [dd K (tupI r), di K g, di K l] ∧ O = .ret (di K (K53.free r g l))
/-- a service, a row that is not full, a gap of it, a next row -/
structure Drawn (t l g : Nat) (r s : List Int) : Prop where
  sv : Svc t l
  hr : r ∈ K53.rows r.length l
  lt : r.length < t
  hg : g ≤ r.length
  hs : s ∈ K53.rows (r.length + 1) l
def FOne (K : PySem.W.Frag) : Md → List Pd → Oc → Prop := fun m Ps O => ∃ st cl t l g r s, Dr m st cl ∧ Drawn t l g r s ∧ Ps = [vv (.ref st), lw K t l, dd K (tupI r), di K (g : Nat), dd K (tupI s)] ∧ O = .ret (db K true)
theorem cb_min2E {K : PySem.W.Frag} {m : Md} {i : Int} {C : Int → Prop} : CbD m (fun xs H Q => ∃ i j, xs = [V.int i, V.int j] ∧ Q (.int (if j < i then j else i)) H) [di K i, exI K C] (exI K fun d => ∃ e, C e ∧ d = if e < i then e else i) := fun vs G H c a Q q => by
  obtain ⟨v, w, rfl, p, j, hj, r⟩ := all2_two a
  cases p; cases r
  exact ⟨i, j, rfl, q _ G H (Go.refl c) ⟨_, ⟨j, hj, rfl⟩, .int _⟩⟩
theorem map_getD_ints {n : Nat} {f : Nat → Int} : ((List.range n).filter fun _ => true).map (fun i => PyData.int (f i)) = ((List.range n).map f).map PyData.int := by
  rw [filt_true, List.map_map]; rfl
theorem atI_nat' {α : Type} {xs : List α} {i : Int} {k : Nat} (h : i = k) (hk : k < xs.length) (d : α) : L2.atI xs i = some (xs.getD k d) := by
  subst h
  unfold L2.atI ixN
  rw [if_pos (by omega), if_pos (by omega)]
  show xs[((k : Int)).toNat]? = _
  rw [Int.toNat_natCast, List.getElem?_eq_getElem hk, List.getD_eq_getElem?_getD, List.getElem?_eq_getElem hk]
  rfl

theorem ok_LService {P : Program} {w : World} {K : PySem.W.Frag} {h : Heap} {mg : Str → Option Value} {base : Heap} (X : K.In h) (Gm : h.Ns mainGlobals mg) (c : He.SaysD fa fn K) : Dok P w K mg base CX0 4 (He.ga K "_law_service") ["_law_stream_here"] (spF (FService K)) := by
  obtain ⟨fd, F⟩ := c.def_ 19 (d := dLService) rfl
  refine ⟨fd, ?_, F.bindsN (ps := ["_law_stream_here"]) fun _ _ _ _ _ _ us hl => match us, hl with | [_], _ => rfl, F.kp⟩
  obtain ⟨fdLabelWorld_Init, GLabelWorld_Init, bLabelWorld_Init, kpLabelWorld_Init⟩ := ok_LabelWorld_Init (P := P) (w := w) (base := base) X Gm c
  obtain ⟨fdLDraw, GLDraw, bLDraw, kpLDraw⟩ := ok_LDraw (P := P) (w := w) (base := base) X Gm c
  have mg__law_draw := He.glo_ok X Gm (c.fact 7 (f := .glo "_law_draw") rfl)
  have mg_LabelWorld := He.glo_ok X Gm (c.fact 22 (f := .glo "LabelWorld") rfl)
  have clLabelWorld := He.cls_ok (c.fact 23 (f := .cls "LabelWorld") rfl)
  have mkLabelWorld := He.mkr_ok (c.fact 26 (f := .mkr "LabelWorld") rfl)
  have naLabelWorld_things := He.noat_ok (c.fact 24 (f := .noat "LabelWorld" "things") rfl)
  have naLabelWorld_labels := He.noat_ok (c.fact 25 (f := .noat "LabelWorld" "labels") rfl)
  refine fn_ok (k := 3) F scLService ?len (fun cdv A outer s H E hr => ⟨_, PSs.nox (pss_cons (ps_set (i := 1) scLService.nd rfl (by first | exact Or.inl rfl | exact Or.inr rfl) (pe_op op_add pe_int (pe_call GLDraw (hr.mono (by decide)) (by rfl) mg__law_draw kpLDraw bLDraw .nil pass0 (pa_cons (pv 0) (pa_cons pe_int pa_nil)))))
  (pss_cons (ps_set (i := 2) scLService.nd rfl (by first | exact Or.inl rfl | exact Or.inr rfl) (pe_op op_add (pv 1) (pe_call GLDraw (hr.mono (by decide)) (by rfl) mg__law_draw kpLDraw bLDraw .nil pass0 (pa_cons (pv 0) (pa_cons (pe_op op_sub pe_int (pv 1)) pa_nil)))))
  (pss_one (ps_ret (pe_make mkLabelWorld GLabelWorld_Init (hr.mono (by decide)) (by rfl) mg_LabelWorld bLabelWorld_Init .nil pass0 (pa_cons (pv 1) (pa_cons (pv 2) pa_nil))))))), ?_⟩)
  case len => rintro m Ps O ⟨st, cl, _, rfl, _⟩; rfl
  rintro m Ps O ⟨st, cl, hd, rfl, rfl⟩
  refine bl_setE (ev_addE (K := K) ev_int (ev_draw hd (ea_cons (ev_var rfl) (ea_cons ev_int ea_nil)) (by decide) (by decide))) ?_
  rintro x ⟨e, ⟨h0, h4⟩, rfl⟩
  refine bl_setE (ev_addE (K := K) (ev_var rfl) (ev_draw hd (ea_cons (ev_var rfl) (ea_cons (ev_sub ev_int (ev_var rfl)) ea_nil)) (by omega) (by omega))) ?_
  rintro y ⟨f, ⟨f0, f4⟩, rfl⟩
  have e1 : 1 + e = (((1 + e).toNat : Nat) : Int) := by omega
  have e2 : 1 + e + f = (((1 + e + f).toNat : Nat) : Int) := by omega
  have sv : Svc (1 + e).toNat (1 + e + f).toNat := ⟨by omega, by omega, by omega, by omega⟩
  refine bl_ret (P := exP (fun p : Nat × Nat => Svc p.1 p.2) fun p => lw K p.1 p.2) ((ev_make (F := FInit K) (C := He.ga K "LabelWorld") (ps := [("things", di K ((1 + e).toNat : Nat)), ("labels", di K ((1 + e + f).toNat : Nat))]) (ea_cons (ev_var rfl) (ea_cons (ev_var rfl) ea_nil)) ⟨(1 + e).toNat, (1 + e + f).toNat, sv, ?_, rfl⟩).to fun v G p => ⟨(_, _), sv, p⟩) rfl
  rw [← e1, ← e2]

theorem ok_LMirrored {P : Program} {w : World} {K : PySem.W.Frag} {h : Heap} {mg : Str → Option Value} {base : Heap} (X : K.In h) (Gm : h.Ns mainGlobals mg) (c : He.SaysD fa fn K) : Dok P w K mg base CX0 1 (He.ga K "_law_mirrored") ["_law_row", "_law_labels"] (spF (FMirrored K)) := by
  obtain ⟨fd, F⟩ := c.def_ 20 (d := dLMirrored) rfl
  refine ⟨fd, ?_, F.bindsN (ps := ["_law_row", "_law_labels"]) fun _ _ _ _ _ _ us hl => match us, hl with | [_, _], _ => rfl, F.kp⟩
  have mg_tuple := He.free_ok X Gm (c.fact 41 (f := .free "tuple") rfl)
  have clLabelWorld := He.cls_ok (c.fact 23 (f := .cls "LabelWorld") rfl)
  have naLabelWorld_things := He.noat_ok (c.fact 24 (f := .noat "LabelWorld" "things") rfl)
  have naLabelWorld_labels := He.noat_ok (c.fact 25 (f := .noat "LabelWorld" "labels") rfl)
  refine fn_ok (k := 0) F scLMirrored ?len (fun cdv A outer s H E hr => ⟨_, PSs.nox (pss_one (ps_ret (pe_callTy (call_tupleK (K := K) rfl) (by rfl) mg_tuple (by decide +kernel) (pa_cons (pe_revLK (K := K) rfl (pe_lc (own := [("_law_label", 2)]) (g := gName 2) (by rfl) scLMirrored.nd (pi_tupK (K := K) rfl (pv 0)) (blkOk_by (own := [("_law_label", 2)]) (N := ["_law_row", "_law_labels", "_law_label"]) (sc := defScope sLMirrored) (by decide +kernel)) (fun _ _ _ _ _ => by exact (pg_name (i := 2) scLMirrored.nd rfl (by first | exact Or.inl rfl | exact Or.inr rfl))) (fun _ _ _ _ _ => by exact pts_nil) (fun _ _ _ _ _ => by exact (pe_op op_sub (pe_op op_sub (pv 1) pe_int) (pv 2))))) pa_nil)))), ?_⟩)
  case len => rintro m Ps O ⟨r, l, _, rfl, _⟩; rfl
  rintro m Ps O ⟨r, l, hl, rfl, rfl⟩
  refine bl_ret (ev_cb (ea_cons (ev_revL (ev_lc (K := K) (b := fun _ => true) (f := fun i => .int (l - 1 - r.getD i 0)) (wk_tup (ev_var rfl)) (by decide) (by rw [List.length_map]; omega) (fun D o _ i _ => eb_yes) ?e)) ea_nil) cb_tupleL) ?_
  case e =>
    intro D o _ i hi _
    rw [List.length_map] at hi
    rw [getD_int hi]
    exact ev_sub (ev_sub (ev_var rfl) ev_int) (ev_var rfl)
  show dd K _ = dd K (tupI _)
  rw [List.length_map, map_getD_ints]
  unfold tupI K53.mirror
  rw [List.map_reverse]
  congr 4
  conv => rhs; rw [← K53.range_getD r 0, List.map_map]
  rfl

theorem ok_LFree {P : Program} {w : World} {K : PySem.W.Frag} {h : Heap} {mg : Str → Option Value} {base : Heap} (X : K.In h) (Gm : h.Ns mainGlobals mg) (c : He.SaysD fa fn K) : Dok P w K mg base CX0 1 (He.ga K "_law_free") ["_law_row", "_law_gap", "_law_labels"] (spF (FFree K)) := by
  obtain ⟨fd, F⟩ := c.def_ 21 (d := dLFree) rfl
  refine ⟨fd, ?_, F.bindsN (ps := ["_law_row", "_law_gap", "_law_labels"]) fun _ _ _ _ _ _ us hl => match us, hl with | [_, _, _], _ => rfl, F.kp⟩
  have mg_list := He.free_ok X Gm (c.fact 40 (f := .free "list") rfl)
  have clLabelWorld := He.cls_ok (c.fact 23 (f := .cls "LabelWorld") rfl)
  have naLabelWorld_things := He.noat_ok (c.fact 24 (f := .noat "LabelWorld" "things") rfl)
  have naLabelWorld_labels := He.noat_ok (c.fact 25 (f := .noat "LabelWorld" "labels") rfl)
  refine fn_ok (k := 0) F scLFree ?len (fun cdv A outer s H E hr => ⟨_, PSs.nox (pss_cons (ps_set (i := 3) scLFree.nd rfl (by first | exact Or.inl rfl | exact Or.inr rfl) (pe_op op_cat (pe_op op_cat (pe_lst (pa_cons (pe_un un_neg pe_int) pa_nil)) (pe_callTy (call_listK (K := K) rfl) (by rfl) mg_list (by decide +kernel) (pa_cons (pv 0) pa_nil))) (pe_lst (pa_cons (pv 2) pa_nil))))
  (pss_one (ps_ret (pe_op op_sub (pe_op op_sub (pe_ix (ix_listK (K := K) rfl) (pv 3) (pe_op op_add (pv 1) pe_int) (fun _ _ => rfl)) (pe_ix (ix_listK (K := K) rfl) (pv 3) (pv 1) (fun _ _ => rfl))) pe_int)))), ?_⟩)
  case len => rintro m Ps O ⟨r, g, l, _, _, rfl, _⟩; rfl
  rintro m Ps O ⟨r, g, l, hg, hl, rfl, rfl⟩
  have en : ([PyData.int (-1)] ++ r.map PyData.int ++ [PyData.int l]) = (K53.ends r l).map PyData.int := by unfold K53.ends; rw [List.map_append, List.map_append]; rfl
  have ln : (K53.ends r l).length = r.length + 2 := by unfold K53.ends; simp
  refine bl_set (P := dd K (.list ((K53.ends r l).map PyData.int))) (by
    rw [← en]
    exact EvD.l2d (ev_catL (K := K) (ev_catL (ev_lstL (ds := [.int (-1)]) (ea_cons (ev_neg ev_int) ea_nil) (by simp)) (ev_cb (ea_cons (ev_var rfl) ea_nil) cb_listTL) (by simp; omega)) (ev_lstL (ds := [.int l]) (ea_cons (ev_var rfl) ea_nil) (by simp)) (by simp; omega))) ?_
  refine bl_ret (ev_sub (K := K) (ev_sub (ev_ixL (d := .int ((K53.ends r l).getD (g + 1) 0)) (ev_var rfl) (ev_add (ev_var rfl) ev_int) ?_) (ev_ixL (d := .int ((K53.ends r l).getD g 0)) (ev_var rfl) (ev_var rfl) ?_)) ev_int) rfl
  · rw [← getD_int (ns := K53.ends r l) (i := g + 1) (by omega)]
    exact atI_nat' (k := g + 1) (by omega) (by rw [List.length_map]; omega) PyData.none
  · rw [← getD_int (ns := K53.ends r l) (i := g) (by omega)]
    exact atI_nat' (k := g) rfl (by rw [List.length_map]; omega) PyData.none

end Law

namespace Law
open PySem PySem.Spec PyProof.Rows L2 Nd

theorem Drawn.row {t l g : Nat} {r s : List Int} (d : Drawn t l g r s) : isRow t l r = true := (isRow_of d.sv.ls (by have := d.lt; have := d.sv.t4; omega) d.hr (by have := d.lt; omega)).1
theorem Drawn.goal {t l g : Nat} {r s : List Int} (d : Drawn t l g r s) : isRow t l s = true ∧ s.length = r.length + 1 := isRow_of d.sv.ls (by have := d.lt; have := d.sv.t4; omega) d.hs (by have := d.lt; omega)
theorem mirror_row {t l k : Nat} {r : List Int} (hl : l ∈ K53.ls) (hk : k ≤ 4) (h : r ∈ K53.rows k l) (ht : k ≤ t) : isRow t l (K53.mirror l r) = true ∧ (K53.mirror l r).length = k := by
  have z := K53.row_ok hl hk h
  have e : (K53.mirror l r).length = k := by unfold K53.mirror; rw [List.length_reverse, List.length_map]; exact z.2.1
  refine ⟨?_, e⟩
  unfold isRow
  rw [z.2.2, e, decide_eq_true ht]
  rfl
theorem wide_row {t l t2 l2 : Nat} {r : List Int} (h : isRow t l r = true) (ht : t ≤ t2) (hl : l ≤ l2) : isRow t2 l2 r = true := by
  unfold isRow at h ⊢
  simp only [Bool.and_eq_true, decide_eq_true_eq] at h ⊢
  exact ⟨K53.asc_lim (by omega) r 0 h.1, by omega⟩
theorem filt_rows {b : List Int → Bool} {rs : List (List Int)} : ((List.range rs.length).filter fun i => b (rs.getD i [])).map (fun i => tupI (rs.getD i [])) = (rs.filter b).map tupI := by
  have key : ∀ (f : Nat → List Int) (xs : List Nat), (xs.filter fun i => b (f i)).map f = (xs.map f).filter b := by
    intro f xs
    rw [List.filter_map]
    rfl
  have z := key (fun i => rs.getD i []) (List.range rs.length)
  rw [K53.range_getD] at z
  rw [← z, List.map_map]
  rfl
theorem eq_sym_dec {α : Type} [DecidableEq α] {a b : α} : decide (a = b) = decide (b = a) := by
  by_cases h : a = b
  · subst h; rfl
  · rw [decide_eq_false h, decide_eq_false (fun e => h e.symm)]

theorem ok_LOne {P : Program} {w : World} {K : PySem.W.Frag} {h : Heap} {mg : Str → Option Value} {base : Heap} (X : K.In h) (Gm : h.Ns mainGlobals mg) (c : He.SaysD fa fn K) : Dok P w K mg base CX0 8 (He.ga K "_law_one") ["_law_stream_here", "_law_service_here", "_law_row", "_law_gap", "_law_goal"] (spF (FOne K)) := by
  obtain ⟨fd, F⟩ := c.def_ 22 (d := dLOne) rfl
  refine ⟨fd, ?_, F.bindsN (ps := ["_law_stream_here", "_law_service_here", "_law_row", "_law_gap", "_law_goal"]) fun _ _ _ _ _ _ us hl => match us, hl with | [_, _, _, _, _], _ => rfl, F.kp⟩
  obtain ⟨fdLabelWorld_Init, GLabelWorld_Init, bLabelWorld_Init, kpLabelWorld_Init⟩ := ok_LabelWorld_Init (P := P) (w := w) (base := base) X Gm c
  obtain ⟨fdLabelWorld_Nexts, GLabelWorld_Nexts, bLabelWorld_Nexts, kpLabelWorld_Nexts⟩ := ok_LabelWorld_Nexts (P := P) (w := w) (base := base) X Gm c
  obtain ⟨fdLabelWorld_Moved, GLabelWorld_Moved, bLabelWorld_Moved, kpLabelWorld_Moved⟩ := ok_LabelWorld_Moved (P := P) (w := w) (base := base) X Gm c
  obtain ⟨fdLabelWorld_Left, GLabelWorld_Left, bLabelWorld_Left, kpLabelWorld_Left⟩ := ok_LabelWorld_Left (P := P) (w := w) (base := base) X Gm c
  obtain ⟨fdLDraw, GLDraw, bLDraw, kpLDraw⟩ := ok_LDraw (P := P) (w := w) (base := base) X Gm c
  have mg__law_draw := He.glo_ok X Gm (c.fact 7 (f := .glo "_law_draw") rfl)
  obtain ⟨fdLInt, GLInt, bLInt, kpLInt⟩ := ok_LInt (P := P) (w := w) (base := base) X Gm c
  have mg__law_int := He.glo_ok X Gm (c.fact 8 (f := .glo "_law_int") rfl)
  obtain ⟨fdLMirrored, GLMirrored, bLMirrored, kpLMirrored⟩ := ok_LMirrored (P := P) (w := w) (base := base) X Gm c
  have mg__law_mirrored := He.glo_ok X Gm (c.fact 10 (f := .glo "_law_mirrored") rfl)
  obtain ⟨fdLFree, GLFree, bLFree, kpLFree⟩ := ok_LFree (P := P) (w := w) (base := base) X Gm c
  have mg__law_free := He.glo_ok X Gm (c.fact 11 (f := .glo "_law_free") rfl)
  have mg_LabelWorld := He.glo_ok X Gm (c.fact 22 (f := .glo "LabelWorld") rfl)
  have mg_len := He.free_ok X Gm (c.fact 36 (f := .free "len") rfl)
  have mg_max := He.free_ok X Gm (c.fact 45 (f := .free "max") rfl)
  have mg_min := He.free_ok X Gm (c.fact 44 (f := .free "min") rfl)
  have clLabelWorld := He.cls_ok (c.fact 23 (f := .cls "LabelWorld") rfl)
  have mkLabelWorld := He.mkr_ok (c.fact 26 (f := .mkr "LabelWorld") rfl)
  have naLabelWorld_things := He.noat_ok (c.fact 24 (f := .noat "LabelWorld" "things") rfl)
  have naLabelWorld_labels := He.noat_ok (c.fact 25 (f := .noat "LabelWorld" "labels") rfl)
  have mLabelWorld_Nexts := He.meth_ok (c.fact 32 (f := .meth "LabelWorld" "nexts") rfl)
  have mLabelWorld_Moved := He.meth_ok (c.fact 33 (f := .meth "LabelWorld" "moved") rfl)
  have mLabelWorld_Left := He.meth_ok (c.fact 34 (f := .meth "LabelWorld" "left") rfl)
  refine fn_ok (k := 7) F scLOne ?len (fun cdv A outer s H E hr => ⟨_, PSs.nox (pss_cons (ps_set (i := 5) scLOne.nd rfl (by first | exact Or.inl rfl | exact Or.inr rfl) (pe_meth (pv 1) clLabelWorld mLabelWorld_Moved GLabelWorld_Moved (hr.mono (by decide)) bLabelWorld_Moved .nil pass0 (pa_cons (pv 2) (pa_cons (pv 3) (pa_cons (pv 4) pa_nil)))))
  (pss_cons (ps_if (PW.pt (pw_or (pt_not (pt_val (pe_call GLInt (hr.mono (by decide)) (by rfl) mg__law_int kpLInt bLInt .nil pass0 (pa_cons (pv 5) pa_nil)))) (pw_or (pt_cmpR op_lt (pv 5) pe_int (nomark _)) (pw_or1 (pt_cmpR op_gt (pv 5) (pe_callB (call_lenK (K := K) rfl) (by rfl) mg_len PySem.boot_len (pa_cons (pv 2) pa_nil)) (nomark _))))))
  (pss_one (ps_ret pe_bl)) pss_nil)
  (pss_cons (ps_if (pt_cmpR op_ne (pe_cmpR op_eq (pv 5) pe_int (nomark _)) (pe_cmpR (op_eqDK (K := K) rfl hr.units) (pe_meth (pv 1) clLabelWorld mLabelWorld_Left GLabelWorld_Left (hr.mono (by decide)) bLabelWorld_Left .nil pass0 (pa_cons (pv 4) (pa_cons (pv 3) pa_nil))) (pv 2) (nomark _)) (nomark _))
  (pss_one (ps_ret pe_bl)) pss_nil)
  (pss_cons (ps_set (i := 6) scLOne.nd rfl (by first | exact Or.inl rfl | exact Or.inr rfl) (pe_fldK (K := K) rfl (pv 1) rfl))
  (pss_cons (ps_if (pt_cmpR op_ne (pe_meth (pv 1) clLabelWorld mLabelWorld_Moved GLabelWorld_Moved (hr.mono (by decide)) bLabelWorld_Moved .nil pass0 (pa_cons (pe_call GLMirrored (hr.mono (by decide)) (by rfl) mg__law_mirrored kpLMirrored bLMirrored .nil pass0 (pa_cons (pv 2) (pa_cons (pv 6) pa_nil))) (pa_cons (pe_op op_sub (pe_callB (call_lenK (K := K) rfl) (by rfl) mg_len PySem.boot_len (pa_cons (pv 2) pa_nil)) (pv 3)) (pa_cons (pe_call GLMirrored (hr.mono (by decide)) (by rfl) mg__law_mirrored kpLMirrored bLMirrored .nil pass0 (pa_cons (pv 4) (pa_cons (pv 6) pa_nil))) pa_nil)))) (pv 5) (nomark _))
  (pss_one (ps_ret pe_bl)) pss_nil)
  (pss_cons (ps_setLc (i := 7) (own := [("_law_other", 10)]) (g := gName 10) (by rfl) scLOne.nd rfl rfl (sw_true rfl rfl rfl (by decide +kernel)) (pi_listK (K := K) rfl (pe_meth (pv 1) clLabelWorld mLabelWorld_Nexts GLabelWorld_Nexts (hr.mono (by decide)) bLabelWorld_Nexts .nil pass0 (pa_cons (pv 2) (pa_cons (pv 3) pa_nil)))) (blkOk_by (own := [("_law_other", 10)]) (N := ["_law_stream_here", "_law_service_here", "_law_row", "_law_gap", "_law_goal", "_law_price", "_law_labels", "_law_none", "_law_wide", "_law_some", "_law_other"]) (sc := defScope sLOne) (by decide +kernel)) (fun _ _ _ _ _ => by exact (pg_name (i := 10) scLOne.nd rfl (by first | exact Or.inl rfl | exact Or.inr rfl))) (fun _ _ _ _ _ => by exact (pts_one (pt_cmpR op_eq (pe_meth (pv 1) clLabelWorld mLabelWorld_Moved GLabelWorld_Moved (hr.mono (by decide)) bLabelWorld_Moved .nil pass0 (pa_cons (pv 2) (pa_cons (pv 3) (pa_cons (pv 10) pa_nil)))) pe_int (nomark _)))) (fun _ _ _ _ _ => by exact (pv 10)))
  (pss_cons (ps_if (pt_cmpR op_ne (pe_callB (call_lenK (K := K) rfl) (by rfl) mg_len PySem.boot_len (pa_cons (pv 7) pa_nil)) (pe_call GLFree (hr.mono (by decide)) (by rfl) mg__law_free kpLFree bLFree .nil pass0 (pa_cons (pv 2) (pa_cons (pv 3) (pa_cons (pv 6) pa_nil)))) (nomark _))
  (pss_one (ps_ret pe_bl)) pss_nil)
  (pss_cons (ps_set (i := 8) scLOne.nd rfl (by first | exact Or.inl rfl | exact Or.inr rfl) (pe_make mkLabelWorld GLabelWorld_Init (hr.mono (by decide)) (by rfl) mg_LabelWorld bLabelWorld_Init .nil pass0 (pa_cons (pe_callB (call_min2 rfl) (by rfl) mg_min (by decide +kernel) (pa_cons pe_int (pa_cons (pe_op op_add (pe_fldK (K := K) rfl (pv 1) rfl) pe_int) pa_nil))) (pa_cons (pe_callB (call_min2 rfl) (by rfl) mg_min (by decide +kernel) (pa_cons pe_int (pa_cons (pe_op op_add (pe_op op_add (pv 6) pe_int) (pe_call GLDraw (hr.mono (by decide)) (by rfl) mg__law_draw kpLDraw bLDraw .nil pass0 (pa_cons (pv 0) (pa_cons pe_int pa_nil)))) pa_nil))) pa_nil))))
  (pss_cons (ps_if (pt_cmpR op_ne (pe_meth (pv 8) clLabelWorld mLabelWorld_Moved GLabelWorld_Moved (hr.mono (by decide)) bLabelWorld_Moved .nil pass0 (pa_cons (pv 2) (pa_cons (pv 3) (pa_cons (pv 4) pa_nil)))) (pv 5) (nomark _))
  (pss_one (ps_ret pe_bl)) pss_nil)
  (pss_cons (ps_setLc (i := 9) (own := [("_law_other", 10)]) (g := gName 10) (by rfl) scLOne.nd rfl rfl (sw_true rfl rfl rfl (by decide +kernel)) (pi_listK (K := K) rfl (pe_meth (pv 8) clLabelWorld mLabelWorld_Nexts GLabelWorld_Nexts (hr.mono (by decide)) bLabelWorld_Nexts .nil pass0 (pa_cons (pv 2) (pa_cons (pv 3) pa_nil)))) (blkOk_by (own := [("_law_other", 10)]) (N := ["_law_stream_here", "_law_service_here", "_law_row", "_law_gap", "_law_goal", "_law_price", "_law_labels", "_law_none", "_law_wide", "_law_some", "_law_other"]) (sc := defScope sLOne) (by decide +kernel)) (fun _ _ _ _ _ => by exact (pg_name (i := 10) scLOne.nd rfl (by first | exact Or.inl rfl | exact Or.inr rfl))) (fun _ _ _ _ _ => by exact (pts_one (pt_cmpR op_lt (pe_callB (cr_maxTK (K := K) rfl rfl) (by rfl) mg_max (by decide +kernel) (pa_cons (pe_op (op_catK (K := K) rfl) (pe_tup (pa_cons pe_int pa_nil)) (pv 10)) pa_nil)) (pv 6) (nomark _)))) (fun _ _ _ _ _ => by exact (pv 10)))
  (pss_one (ps_ret (pe_cmpR (op_eqDK (K := K) rfl hr.units) (pv 9) (pe_meth (pv 1) clLabelWorld mLabelWorld_Nexts GLabelWorld_Nexts (hr.mono (by decide)) bLabelWorld_Nexts .nil pass0 (pa_cons (pv 2) (pa_cons (pv 3) pa_nil))) (nomark _)))))))))))))), ?_⟩)
  case len => rintro m Ps O ⟨st, cl, t, l, g, r, s, _, _, rfl, _⟩; rfl
  rintro m Ps O ⟨st, cl, t, l, g, r, s, hd, dr, rfl, rfl⟩
  have hl := dr.sv.ls; have ht := dr.sv.t4; have hlt := dr.lt; have hg := dr.hg
  have hr0 := dr.row
  obtain ⟨hs0, hsl⟩ := dr.goal
  have l7 := dr.sv.l7; have tl := dr.sv.tl
  have mv : ∀ q, isRow t l q = true → q.length = r.length + 1 → FMoved K m [lw K t l, dd K (tupI r), di K g, dd K (tupI q)] (.ret (di K (K53.mism r (K53.erase q g)))) := fun q h1 h2 => ⟨t, l, g, r, q, ht, hr0, hlt, hg, h1, h2, rfl, rfl⟩
  -- price = moved(row, gap, goal)
  refine bl_set (ev_meth (F := FMoved K) (ps := [("things", di K t), ("labels", di K l)]) (ev_var rfl) (by kernel_rfl) (ea_cons (ev_var rfl) (ea_cons (ev_var rfl) (ea_cons (ev_var rfl) ea_nil))) (mv s hs0 hsl)) ?_
  have ple := K53.mism_le r (K53.erase s g)
  refine bl_ifR ((eb_or (eb_not (eb_tB (ev_call (F := FIsInteger K) (ea_cons (ev_var rfl) ea_nil) ⟨_, rfl, rfl⟩))) fun _ => eb_or (eb_test (ev_lt (K := K) (ev_var rfl) ev_int)) fun _ => eb_test (ev_gt (K := K) (ev_var rfl) (ev_cb (ea_cons (ev_var rfl) ea_nil) cb_lenT))).to (b' := false) ?_) (fun hb => by cases hb) (fun _ => bl_nextS ?_)
  · refine or_ff rfl (or_ff (decide_eq_false (by omega)) (decide_eq_false (by rw [List.length_map]; omega)))
  -- (price == 0) != (left(goal, gap) == row)
  refine bl_ifR ((eb_test (ev_neB (K := K) (ev_eqI (ev_var rfl) ev_int) (ev_eqD (ev_meth (F := FLeft K) (S := dd K (tupI (K53.erase s g))) (ps := [("things", di K t), ("labels", di K l)]) (ev_var rfl) (by kernel_rfl) (ea_cons (ev_var rfl) (ea_cons (ev_var rfl) ea_nil)) ⟨t, l, g, s, ht, hs0, by omega, rfl, rfl⟩) (ev_var rfl) (shaped_tup _) (shaped_tup _)))).to (b' := false) ?_) (fun hb => by cases hb) (fun _ => bl_nextS ?_)
  · rw [eqv_tup]
    have z := K53.mism_zero r (K53.erase s g) (by have := K53.erase_len (r := s) (g := g) (by omega); omega)
    by_cases e : K53.mism r (K53.erase s g) = 0
    · rw [decide_eq_true (show ((K53.mism r (K53.erase s g) : Nat) : Int) = 0 by omega), decide_eq_true (z.mp e)]; rfl
    · rw [decide_eq_false (show ¬ ((K53.mism r (K53.erase s g) : Nat) : Int) = 0 by omega), decide_eq_false (fun q => e (z.mpr q))]; rfl
  -- labels = service.labels
  refine bl_set (ev_fld (P := di K l) (ps := [("things", di K t), ("labels", di K l)]) (ev_var rfl) clLabelWorld naLabelWorld_labels (by kernel_rfl)) ?_
  -- the mirrored price
  obtain ⟨mr, mrl⟩ := mirror_row (t := t) hl (show r.length ≤ 4 by omega) dr.hr (by omega)
  obtain ⟨ms, msl⟩ := mirror_row (t := t) hl (show r.length + 1 ≤ 4 by omega) dr.hs (by omega)
  refine bl_ifR ((eb_test (ev_neI (K := K) (ev_meth (F := FMoved K) (S := di K (K53.mism (K53.mirror l r) (K53.erase (K53.mirror l s) (r.length - g)))) (ps := [("things", di K t), ("labels", di K l)]) (ev_var rfl) (by kernel_rfl) (ea_cons (ev_call (F := FMirrored K) (ea_cons (ev_var rfl) (ea_cons (ev_var rfl) ea_nil)) ⟨r, l, by omega, rfl, rfl⟩) (ea_cons (ev_sub (ev_cb (ea_cons (ev_var rfl) ea_nil) cb_lenT) (ev_var rfl)) (ea_cons (ev_call (F := FMirrored K) (ea_cons (ev_var rfl) (ea_cons (ev_var rfl) ea_nil)) ⟨s, l, by omega, rfl, rfl⟩) ea_nil)))
      ⟨t, l, r.length - g, K53.mirror l r, K53.mirror l s, ht, mr, by omega, by omega, ms, by omega, by rw [List.length_map, show ((r.length : Int) - (g : Int)) = ((r.length - g : Nat) : Int) by omega]; rfl, rfl⟩) (ev_var rfl))).to (b' := false) ?_) (fun hb => by cases hb) (fun _ => bl_nextS ?_)
  · rw [K53.law3 hl (by omega) dr.hr dr.hs hg, decide_eq_true rfl]; rfl
  -- none = [other for other in nexts(row, gap) if moved(row, gap, other) == 0]
  have nx : FNexts K m [lw K t l, dd K (tupI r), di K g] (.ret (dd K (.list ((K53.rows (r.length + 1) l).map tupI)))) := ⟨t, l, g, r, dr.sv, hr0, hlt, hg, rfl, rfl⟩
  have lenN := K53.rows_len hl (show r.length + 1 ≤ 4 by omega)
  refine bl_set (P := dd K (.list (((K53.rows (r.length + 1) l).filter fun q => K53.mism r (K53.erase q g) == 0).map tupI))) (by
    rw [← filt_rows]
    have z := ev_lc (K := K) (b := fun i => K53.mism r (K53.erase ((K53.rows (r.length + 1) l).getD i []) g) == 0) (f := fun i => tupI ((K53.rows (r.length + 1) l).getD i [])) (wk_list (ev_meth (E := E0) (F := FNexts K) (m := m) (ta := tVar 1) (tA := tCons (tVar 2) (tCons (tVar 3) tNil)) (mn := "nexts") (δ := [some (vv (.ref st)), some (lw K t l), some (dd K (tupI r)), some (di K g), some (dd K (tupI s)), some (di K (K53.mism r (K53.erase s g))), some (di K l), none, none, none, none]) (ps := [("things", di K t), ("labels", di K l)]) (ev_var rfl) (by kernel_rfl) (ea_cons (ev_var rfl) (ea_cons (ev_var rfl) ea_nil)) nx)) (vs := [10]) (j := 10) (by decide) (by rw [List.length_map]; omega)
      (tt := tTest (tOp rEq (tMeth (He.ga K "LabelWorld") "moved" (spF (FMoved K)) [] E0 (tVar 1) (tCons (tVar 2) (tCons (tVar 3) (tCons (tVar 10) tNil)))) (tC (.int 0)))) (te := tVar 10) ?t ?e
    rw [List.length_map] at z
    exact z
    case t =>
      intro D o _ i hi
      rw [List.length_map] at hi
      rw [getD_tup hi]
      have mem := K53.mem_getD (d := []) hi
      obtain ⟨q1, q2⟩ := isRow_of (t := t) hl (show r.length + 1 ≤ 4 by omega) mem (by omega)
      refine (eb_test (ev_eqI (K := K) (ev_meth (F := FMoved K) (ps := [("things", di K t), ("labels", di K l)]) (ev_var rfl) (by kernel_rfl) (ea_cons (ev_var rfl) (ea_cons (ev_var rfl) (ea_cons (ev_var rfl) ea_nil))) ⟨t, l, g, r, _, ht, hr0, hlt, hg, q1, q2, rfl, rfl⟩) ev_int)).to ?_
      by_cases e : K53.mism r (K53.erase ((K53.rows (r.length + 1) l).getD i []) g) = 0
      · rw [e]; rfl
      · rw [decide_eq_false (show ¬ ((K53.mism r (K53.erase ((K53.rows (r.length + 1) l).getD i []) g) : Nat) : Int) = 0 by omega)]
        exact (beq_eq_false_iff_ne.mpr e).symm
    case e =>
      intro D o _ i hi _
      rw [List.length_map] at hi
      rw [getD_tup hi]
      exact ev_var rfl) ?_
  -- len(none) != free(row, gap, labels)
  refine bl_ifR ((eb_test (ev_neI (K := K) (ev_cb (ea_cons (ev_var rfl) ea_nil) cb_lenL) (ev_call (F := FFree K) (ea_cons (ev_var rfl) (ea_cons (ev_var rfl) (ea_cons (ev_var rfl) ea_nil))) ⟨r, g, l, hg, by omega, rfl, rfl⟩))).to (b' := false) ?_) (fun hb => by cases hb) (fun _ => bl_nextS ?_)
  · rw [List.length_map, K53.law4 hl (by omega) dr.hr hg, decide_eq_true rfl]; rfl
  -- wide = LabelWorld(min(4, things + 1), min(7, labels + 1 + draw))
  refine bl_setE (C := fun p : Nat × Nat => Svc p.1 p.2 ∧ t ≤ p.1 ∧ l ≤ p.2) (Q := fun p => lw K p.1 p.2) (ev_makeE (F := FInit K) (ea_cons (ev_cb (ea_cons ev_int (ea_cons (ev_add (K := K) (ev_fld (P := di K t) (ps := [("things", di K t), ("labels", di K l)]) (ev_var rfl) clLabelWorld naLabelWorld_things rfl) ev_int) ea_nil)) cb_min2) (ea_cons (ev_cb (ea_cons ev_int (ea_cons (ev_addE (K := K) (ev_add (ev_var rfl) ev_int) (ev_draw hd (ea_cons (ev_var rfl) (ea_cons ev_int ea_nil)) (by decide) (by decide))) ea_nil)) cb_min2E) ea_nil)) ?_) ?_
  · intro vs G al
    obtain ⟨v, w, rfl, p, y, ⟨z, ⟨e, ⟨e0, e2⟩, rfl⟩, rfl⟩, q⟩ := all2_two al
    cases p; cases q
    have h1 : (if (t : Int) + 1 < 4 then (t : Int) + 1 else 4) = (((if (t : Int) + 1 < 4 then (t : Int) + 1 else 4).toNat : Nat) : Int) := by split <;> omega
    have h2 : (if (l : Int) + 1 + e < 7 then (l : Int) + 1 + e else 7) = (((if (l : Int) + 1 + e < 7 then (l : Int) + 1 + e else 7).toNat : Nat) : Int) := by split <;> omega
    have t1 := dr.sv.t1
    have sv : Svc (if (t : Int) + 1 < 4 then (t : Int) + 1 else 4).toNat (if (l : Int) + 1 + e < 7 then (l : Int) + 1 + e else 7).toNat := by
      refine ⟨?_, ?_, ?_, ?_⟩
      · split <;> omega
      · split <;> omega
      · split <;> split <;> omega
      · split <;> omega
    refine ⟨[di K ((if (t : Int) + 1 < 4 then (t : Int) + 1 else 4).toNat : Nat), di K ((if (l : Int) + 1 + e < 7 then (l : Int) + 1 + e else 7).toNat : Nat)], _, .cons (by rw [← h1]; exact .int _) (.cons (by rw [← h2]; exact .int _) .nil), ⟨_, _, sv, rfl, rfl⟩, fun v G' p => ⟨(_, _), ⟨sv, ?_, ?_⟩, p⟩⟩
    · show t ≤ (if (t : Int) + 1 < 4 then (t : Int) + 1 else 4).toNat
      split <;> omega
    · show l ≤ (if (l : Int) + 1 + e < 7 then (l : Int) + 1 + e else 7).toNat
      split <;> omega
  rintro ⟨t2, l2⟩ ⟨sv2, tt2, ll2⟩
  have sv2 : Svc t2 l2 := sv2
  have tt2 : t ≤ t2 := tt2
  have ll2 : l ≤ l2 := ll2
  have hl2 := sv2.ls; have ht4 := sv2.t4
  have wr := wide_row hr0 tt2 ll2
  have ws := wide_row hs0 tt2 ll2
  refine bl_ifR ((eb_test (ev_neI (K := K) (ev_meth (F := FMoved K) (ps := [("things", di K (t2 : Nat)), ("labels", di K (l2 : Nat))]) (ev_var rfl) (by kernel_rfl) (ea_cons (ev_var rfl) (ea_cons (ev_var rfl) (ea_cons (ev_var rfl) ea_nil))) ⟨t2, l2, g, r, s, ht4, wr, by omega, hg, ws, hsl, rfl, rfl⟩) (ev_var rfl))).to (b' := false) ?_) (fun hb => by cases hb) (fun _ => bl_nextS ?_)
  · rw [decide_eq_true rfl]; rfl
  -- some = [other for other in wide.nexts(row, gap) if max((0,) + other) < labels]
  have lenW := K53.rows_len hl2 (show r.length + 1 ≤ 4 by omega)
  refine bl_set (P := dd K (.list ((K53.rows (r.length + 1) l).map tupI))) (by
    have z := ev_lc (K := K) (b := fun i => decide (K53.maxz ((K53.rows (r.length + 1) l2).getD i []) < (l : Int))) (f := fun i => tupI ((K53.rows (r.length + 1) l2).getD i [])) (wk_list (ev_meth (E := E0) (F := FNexts K) (m := m) (ta := tVar 8) (tA := tCons (tVar 2) (tCons (tVar 3) tNil)) (mn := "nexts") (δ := [some (vv (.ref st)), some (lw K t l), some (dd K (tupI r)), some (di K g), some (dd K (tupI s)), some (di K (K53.mism r (K53.erase s g))), some (di K l), some (dd K (.list (((K53.rows (r.length + 1) l).filter fun q => K53.mism r (K53.erase q g) == 0).map tupI))), some (lw K t2 l2), none, none]) (ps := [("things", di K (t2 : Nat)), ("labels", di K (l2 : Nat))]) (ev_var rfl) (by kernel_rfl) (ea_cons (ev_var rfl) (ea_cons (ev_var rfl) ea_nil)) ⟨t2, l2, g, r, sv2, wr, by omega, hg, rfl, rfl⟩)) (vs := [10]) (j := 10) (by decide) (by rw [List.length_map]; omega)
      (tt := tTest (tOp (rI0 fun i j => .bl (decide (i < j))) (tCB (fun vs H Q => ∃ (a : Addr) (ns : List Int), vs = [V.ref a] ∧ SqT K H a (ns.map V.int) ∧ 0 < ns.length ∧ ∀ m, m ∈ ns → (∀ y, y ∈ ns → y ≤ m) → Q (.int m) H) (tCons (tOp (rCatA K) (tTup (tCons (tC (.int 0)) tNil)) (tVar 10)) tNil)) (tVar 6))) (te := tVar 10) ?t ?e
    rw [List.length_map, filt_rows (b := fun q => decide (K53.maxz q < (l : Int))), K53.law6 hl hl2 (show r.length + 1 ≤ 4 by omega) ll2] at z
    exact z
    case t =>
      intro D o _ i hi
      rw [List.length_map] at hi
      rw [getD_tup hi]
      have mem := K53.mem_getD (d := []) hi
      obtain ⟨q1, q2⟩ := isRow_of (t := t2) hl2 (show r.length + 1 ≤ 4 by omega) mem (by omega)
      obtain ⟨z1, z2⟩ := K53.maxz_spec ((K53.rows (r.length + 1) l2).getD i [])
      exact eb_test (ev_lt (K := K) (ev_cb (ea_cons (ev_catT (xs := [.int 0]) (ev_tup (ds := [.int 0]) (ea_cons ev_int ea_nil) (by simp)) (ev_var rfl) (by rw [List.length_map, q2]; simp; omega)) ea_nil) (cb_maxT (ns := 0 :: (K53.rows (r.length + 1) l2).getD i []) z1 z2)) (ev_var rfl))
    case e =>
      intro D o _ i hi _
      rw [List.length_map] at hi
      rw [getD_tup hi]
      exact ev_var rfl) ?_
  refine bl_ret ((ev_eqD (K := K) (ev_var rfl) (ev_meth (F := FNexts K) (ps := [("things", di K t), ("labels", di K l)]) (ev_var rfl) (by kernel_rfl) (ea_cons (ev_var rfl) (ea_cons (ev_var rfl) ea_nil)) nx) (shaped_rows _) (shaped_rows _))) ?_
  show db K _ = db K true
  rw [eqv_rows, decide_eq_true rfl]

end Law

namespace Law
open PySem PySem.Spec PyProof.Rows L2 Nd

def FDuo (K : PySem.W.Frag) : Md → List Pd → Oc → Prop := FOne K
theorem erase_row {t l h : Nat} {q : List Int} (hq : isRow t l q = true) (hh : h < q.length) : isRow t l (K53.erase q h) = true := by
  unfold isRow at hq ⊢
  simp only [Bool.and_eq_true, decide_eq_true_eq] at hq ⊢
  have e := K53.erase_len hh
  exact ⟨K53.asc_erase _ q 0 h hq.1, by omega⟩

theorem ok_LTwo {P : Program} {w : World} {K : PySem.W.Frag} {h : Heap} {mg : Str → Option Value} {base : Heap} (X : K.In h) (Gm : h.Ns mainGlobals mg) (c : He.SaysD fa fn K) : Dok P w K mg base CX0 8 (He.ga K "_law_two") ["_law_stream_here", "_law_service_here", "_law_row", "_law_gap", "_law_goal"] (spF (FDuo K)) := by
  obtain ⟨fd, F⟩ := c.def_ 23 (d := dLTwo) rfl
  refine ⟨fd, ?_, F.bindsN (ps := ["_law_stream_here", "_law_service_here", "_law_row", "_law_gap", "_law_goal"]) fun _ _ _ _ _ _ us hl => match us, hl with | [_, _, _, _, _], _ => rfl, F.kp⟩
  obtain ⟨fdLabelWorld_Nexts, GLabelWorld_Nexts, bLabelWorld_Nexts, kpLabelWorld_Nexts⟩ := ok_LabelWorld_Nexts (P := P) (w := w) (base := base) X Gm c
  obtain ⟨fdLabelWorld_Moved, GLabelWorld_Moved, bLabelWorld_Moved, kpLabelWorld_Moved⟩ := ok_LabelWorld_Moved (P := P) (w := w) (base := base) X Gm c
  obtain ⟨fdLabelWorld_Left, GLabelWorld_Left, bLabelWorld_Left, kpLabelWorld_Left⟩ := ok_LabelWorld_Left (P := P) (w := w) (base := base) X Gm c
  obtain ⟨fdLDraw, GLDraw, bLDraw, kpLDraw⟩ := ok_LDraw (P := P) (w := w) (base := base) X Gm c
  have mg__law_draw := He.glo_ok X Gm (c.fact 7 (f := .glo "_law_draw") rfl)
  have mg_len := He.free_ok X Gm (c.fact 36 (f := .free "len") rfl)
  have mg_range := He.free_ok X Gm (c.fact 39 (f := .free "range") rfl)
  have clLabelWorld := He.cls_ok (c.fact 23 (f := .cls "LabelWorld") rfl)
  have naLabelWorld_things := He.noat_ok (c.fact 24 (f := .noat "LabelWorld" "things") rfl)
  have naLabelWorld_labels := He.noat_ok (c.fact 25 (f := .noat "LabelWorld" "labels") rfl)
  have mLabelWorld_Nexts := He.meth_ok (c.fact 32 (f := .meth "LabelWorld" "nexts") rfl)
  have mLabelWorld_Moved := He.meth_ok (c.fact 33 (f := .meth "LabelWorld" "moved") rfl)
  have mLabelWorld_Left := He.meth_ok (c.fact 34 (f := .meth "LabelWorld" "left") rfl)
  refine fn_ok (k := 7) F scLTwo ?len (fun cdv A outer s H E hr => ⟨_, PSs.nox (pss_cons (ps_if (pt_cmpR op_eq (pe_callB (call_lenK (K := K) rfl) (by rfl) mg_len PySem.boot_len (pa_cons (pv 4) pa_nil)) (pe_fldK (K := K) rfl (pv 1) rfl) (nomark _))
  (pss_one (ps_ret pe_bl)) pss_nil)
  (pss_cons (ps_set (i := 5) scLTwo.nd rfl (by first | exact Or.inl rfl | exact Or.inr rfl) (pe_call GLDraw (hr.mono (by decide)) (by rfl) mg__law_draw kpLDraw bLDraw .nil pass0 (pa_cons (pv 0) (pa_cons (pe_op op_add (pe_callB (call_lenK (K := K) rfl) (by rfl) mg_len PySem.boot_len (pa_cons (pv 4) pa_nil)) pe_int) pa_nil))))
  (pss_cons (ps_set (i := 6) scLTwo.nd rfl (by first | exact Or.inl rfl | exact Or.inr rfl) (pe_meth (pv 1) clLabelWorld mLabelWorld_Nexts GLabelWorld_Nexts (hr.mono (by decide)) bLabelWorld_Nexts .nil pass0 (pa_cons (pv 4) (pa_cons (pv 5) pa_nil))))
  (pss_cons (ps_if (pt_cmpR op_eq (pe_callB (call_lenK (K := K) rfl) (by rfl) mg_len PySem.boot_len (pa_cons (pv 6) pa_nil)) pe_int (nomark _))
  (pss_one (ps_ret pe_bl)) pss_nil)
  (pss_cons (ps_set (i := 7) scLTwo.nd rfl (by first | exact Or.inl rfl | exact Or.inr rfl) (pe_ix (ix_listK (K := K) rfl) (pv 6) (pe_call GLDraw (hr.mono (by decide)) (by rfl) mg__law_draw kpLDraw bLDraw .nil pass0 (pa_cons (pv 0) (pa_cons (pe_callB (call_lenK (K := K) rfl) (by rfl) mg_len PySem.boot_len (pa_cons (pv 6) pa_nil)) pa_nil))) (fun _ _ => rfl)))
  (pss_cons (ps_set (i := 8) scLTwo.nd rfl (by first | exact Or.inl rfl | exact Or.inr rfl) (pe_meth (pv 1) clLabelWorld mLabelWorld_Left GLabelWorld_Left (hr.mono (by decide)) bLabelWorld_Left .nil pass0 (pa_cons (pv 7) (pa_cons (pv 5) pa_nil))))
  (pss_cons (ps_set (i := 8) scLTwo.nd rfl (by first | exact Or.inl rfl | exact Or.inr rfl) (pe_meth (pv 1) clLabelWorld mLabelWorld_Left GLabelWorld_Left (hr.mono (by decide)) bLabelWorld_Left .nil pass0 (pa_cons (pv 8) (pa_cons (pv 3) pa_nil))))
  (pss_cons (ps_set (i := 9) scLTwo.nd rfl (by first | exact Or.inl rfl | exact Or.inr rfl) (pe_callB (call_lenK (K := K) rfl) (by rfl) mg_len PySem.boot_len (pa_cons (pe_lc (own := [("_law_k", 10)]) (g := gName 10) (by rfl) scLTwo.nd (pi_range1 (by rfl) mg_range (pa_cons (pe_callB (call_lenK (K := K) rfl) (by rfl) mg_len PySem.boot_len (pa_cons (pv 2) pa_nil)) pa_nil)) (blkOk_by (own := [("_law_k", 10)]) (N := ["_law_stream_here", "_law_service_here", "_law_row", "_law_gap", "_law_goal", "_law_again", "_law_nexts", "_law_last", "_law_rest", "_law_changed", "_law_k"]) (sc := defScope sLTwo) (by decide +kernel)) (fun _ _ _ _ _ => by exact (pg_name (i := 10) scLTwo.nd rfl (by first | exact Or.inl rfl | exact Or.inr rfl))) (fun _ _ _ _ _ => by exact (pts_one (pt_cmpR op_ne (pe_ix (ix_tupK (K := K) rfl) (pv 8) (pv 10) (fun _ _ => rfl)) (pe_ix (ix_tupK (K := K) rfl) (pv 2) (pv 10) (fun _ _ => rfl)) (nomark _)))) (fun _ _ _ _ _ => by exact (pv 10))) pa_nil)))
  (pss_one (ps_ret (pe_cmpR op_ge (pe_op op_add (pe_meth (pv 1) clLabelWorld mLabelWorld_Moved GLabelWorld_Moved (hr.mono (by decide)) bLabelWorld_Moved .nil pass0 (pa_cons (pv 2) (pa_cons (pv 3) (pa_cons (pv 4) pa_nil)))) (pe_meth (pv 1) clLabelWorld mLabelWorld_Moved GLabelWorld_Moved (hr.mono (by decide)) bLabelWorld_Moved .nil pass0 (pa_cons (pv 4) (pa_cons (pv 5) (pa_cons (pv 7) pa_nil))))) (pv 9) (nomark _)))))))))))), ?_⟩)
  case len => rintro m Ps O ⟨st, cl, t, l, g, r, s, _, _, rfl, _⟩; rfl
  rintro m Ps O ⟨st, cl, t, l, g, r, s, hd, dr, rfl, rfl⟩
  have hl := dr.sv.ls; have ht := dr.sv.t4; have hlt := dr.lt; have hg := dr.hg
  have hr0 := dr.row
  obtain ⟨hs0, hsl⟩ := dr.goal
  refine bl_ifR (eb_test (ev_eqI (K := K) (ev_cb (ea_cons (ev_var rfl) ea_nil) cb_lenT) (ev_fld (P := di K t) (ps := [("things", di K t), ("labels", di K l)]) (ev_var rfl) clLabelWorld naLabelWorld_things rfl))) (fun hb => bl_retS (ev_bl (K := K)) rfl) (fun hb => bl_nextS ?_)
  have hne := of_decide_eq_false hb
  rw [List.length_map] at hne
  have hst : s.length < t := by omega
  refine bl_setE (ev_draw (K := K) hd (ea_cons (ev_var rfl) (ea_cons (ev_add (ev_cb (ea_cons (ev_var rfl) ea_nil) cb_lenT) ev_int) ea_nil)) (by omega) (by rw [List.length_map]; omega)) ?_
  rintro x ⟨h0, h1⟩
  rw [List.length_map] at h1
  obtain ⟨hh, rfl⟩ : ∃ hh : Nat, x = (hh : Int) := ⟨x.toNat, by omega⟩
  have lenN := K53.rows_len hl (show s.length + 1 ≤ 4 by omega)
  refine bl_set (ev_meth (F := FNexts K) (ps := [("things", di K t), ("labels", di K l)]) (ev_var rfl) (by kernel_rfl) (ea_cons (ev_var rfl) (ea_cons (ev_var rfl) ea_nil)) ⟨t, l, hh, s, dr.sv, hs0, hst, by omega, rfl, rfl⟩) ?_
  refine bl_ifR (eb_test (ev_eqI (K := K) (ev_cb (ea_cons (ev_var rfl) ea_nil) cb_lenL) ev_int)) (fun hb => bl_retS (ev_bl (K := K)) rfl) (fun hb => bl_nextS ?_)
  have hpos := of_decide_eq_false hb
  rw [List.length_map] at hpos
  refine bl_setE (ev_ixE (K := K) (ev_var rfl) (ev_draw (K := K) hd (ea_cons (ev_var rfl) (ea_cons (ev_cb (ea_cons (ev_var rfl) ea_nil) cb_lenL) ea_nil)) (by rw [List.length_map]; omega) (by rw [List.length_map]; omega)) rfl) ?_
  intro qd hqd
  obtain ⟨q, hqm, rfl⟩ := List.mem_map.mp hqd
  obtain ⟨hq0, hql⟩ := isRow_of (t := t) hl (show s.length + 1 ≤ 4 by omega) hqm (by omega)
  have e1 := K53.erase_len (r := q) (g := hh) (by omega)
  have er := erase_row (h := hh) hq0 (by omega)
  have e2 := K53.erase_len (r := K53.erase q hh) (g := g) (by omega)
  refine bl_set (ev_meth (F := FLeft K) (ps := [("things", di K t), ("labels", di K l)]) (ev_var rfl) (by kernel_rfl) (ea_cons (ev_var rfl) (ea_cons (ev_var rfl) ea_nil)) ⟨t, l, hh, q, ht, hq0, by omega, rfl, rfl⟩) ?_
  refine bl_set (ev_meth (F := FLeft K) (ps := [("things", di K t), ("labels", di K l)]) (ev_var rfl) (by kernel_rfl) (ea_cons (ev_var rfl) (ea_cons (ev_var rfl) ea_nil)) ⟨t, l, g, K53.erase q hh, ht, er, by omega, rfl, rfl⟩) ?_
  refine bl_set (P := di K (K53.mism r (K53.erase (K53.erase q hh) g))) (by
    have z := ev_cb (m := m) (ea_cons (ev_lc (K := K) (m := m) (b := fun i => !decide ((K53.erase (K53.erase q hh) g).getD i 0 = r.getD i 0)) (f := fun i => .int (i : Int)) (wk_rng1 (K := K) (ta := tCons (tCB (fun xs H Q => ∃ p ys, xs = [V.ref p] ∧ (SqL K H p ys ∨ SqT K H p ys) ∧ Q (.int ys.length) H) (tCons (tVar 2) tNil)) tNil) (δ := [some (vv (.ref st)), some (lw K t l), some (dd K (tupI r)), some (di K g), some (dd K (tupI s)), some (di K hh), some (dd K (.list ((K53.rows (s.length + 1) l).map tupI))), some (dd K (tupI q)), some (dd K (tupI (K53.erase (K53.erase q hh) g))), none, none]) (ea_cons (ev_cb (ea_cons (ev_var rfl) ea_nil) cb_lenT) ea_nil) (by rw [List.length_map]; omega) (by rw [List.length_map]; omega)) (vs := [10]) (j := 10) (by decide) (by rw [List.length_map]; omega)
      (tt := tTest (tOp rNe (tOp (rIxT K) (tVar 8) (tVar 10)) (tOp (rIxT K) (tVar 2) (tVar 10)))) (te := tVar 10) ?t ?e) ea_nil) cb_lenL
    have ec : (((List.range ((((r.map PyData.int).length : Nat) : Int).toNat)).filter fun i => !decide ((K53.erase (K53.erase q hh) g).getD i 0 = r.getD i 0)).map fun (i : Nat) => PyData.int (i : Int)).length = K53.mism r (K53.erase (K53.erase q hh) g) := by
      rw [List.length_map, ← K53.mism_count, List.length_map, Int.toNat_natCast, show min r.length (K53.erase (K53.erase q hh) g).length = r.length by omega]
      congr 2
      funext i
      rw [eq_sym_dec]
    rw [ec] at z
    exact z
    case t =>
      intro D o _ i hi
      rw [List.length_map, Int.toNat_natCast] at hi
      refine eb_test (ev_neI (K := K) (ev_ixT (ev_var rfl) (ev_var rfl) ?_) (ev_ixT (ev_var rfl) (ev_var rfl) ?_))
      · rw [← getD_int (ns := K53.erase (K53.erase q hh) g) (i := i) (by omega)]
        exact atI_nat' (k := i) rfl (by rw [List.length_map]; omega) PyData.none
      · rw [← getD_int (ns := r) (i := i) (by omega)]
        exact atI_nat' (k := i) rfl (by rw [List.length_map]; omega) PyData.none
    case e => exact fun D o _ i hi _ => ev_var rfl) ?_
  refine bl_ret (ev_ge (K := K) (ev_add (ev_meth (F := FMoved K) (ps := [("things", di K t), ("labels", di K l)]) (ev_var rfl) (by kernel_rfl) (ea_cons (ev_var rfl) (ea_cons (ev_var rfl) (ea_cons (ev_var rfl) ea_nil))) ⟨t, l, g, r, s, ht, hr0, hlt, hg, hs0, hsl, rfl, rfl⟩) (ev_meth (F := FMoved K) (ps := [("things", di K t), ("labels", di K l)]) (ev_var rfl) (by kernel_rfl) (ea_cons (ev_var rfl) (ea_cons (ev_var rfl) (ea_cons (ev_var rfl) ea_nil))) ⟨t, l, hh, s, q, ht, hs0, hst, by omega, hq0, hql, rfl, rfl⟩)) (ev_var rfl)) ?_
  show db K _ = db K true
  have w := K53.two_le r s q g hh hsl hql hg (by omega)
  rw [decide_eq_true (by omega)]

end Law

namespace Law
open PySem PySem.Spec PyProof.Rows L2 Nd

def spLaw (K : PySem.W.Frag) : Sp := fun vs H Q _ => ∃ (a : Addr) (ns : List Int), vs = [.ref a] ∧ SqL K H a (ns.map V.int) ∧ ∀ H', Q (.bl true) H'
def allR (t l : Nat) : List (List Int) := (List.range (t + 1)).flatMap fun k => K53.rows k l
def notFull (t l : Nat) : List (List Int) := (allR t l).filter fun r => decide (r.length < t)
theorem allR_len {t l : Nat} (h : Svc t l) : (allR t l).length ≤ 15000 := by
  have h4 := h.t4
  refine Nat.le_trans (K53.flatMap_len _ 3000 (t + 1) fun k hk => K53.rows_len h.ls (by omega)) (by omega)
theorem notFull_mem {t l : Nat} (h : Svc t l) {r : List Int} (hr : r ∈ notFull t l) : r ∈ K53.rows r.length l ∧ r.length < t := by
  unfold notFull allR at hr
  rw [List.mem_filter, List.mem_flatMap] at hr
  obtain ⟨⟨k, hk, hr⟩, hlt⟩ := hr
  have h4 := h.t4
  have e := (K53.row_ok h.ls (by have := List.mem_range.mp hk; omega) hr).2.1
  rw [e]
  exact ⟨hr, by have := of_decide_eq_true hlt; omega⟩
theorem notFull_pos {t l : Nat} (h : Svc t l) : 0 < (notFull t l).length := by
  apply List.length_pos_iff.mpr
  intro e
  have : ([] : List Int) ∈ notFull t l := by
    unfold notFull allR
    rw [List.mem_filter, List.mem_flatMap]
    exact ⟨⟨0, List.mem_range.mpr (by omega), by simp [K53.rows]⟩, decide_eq_true (by have := h.t1; simp; omega)⟩
  rw [e] at this
  cases this
theorem notFull_le {t l : Nat} (h : Svc t l) : (notFull t l).length ≤ 15000 := Nat.le_trans (List.length_filter_le _ _) (allR_len h)

theorem ok_Law {P : Program} {w : World} {K : PySem.W.Frag} {h : Heap} {mg : Str → Option Value} {base : Heap} {fd : FuncData} (F : FunD K dLaw.name dLaw.qual dLaw.params dLaw.body dLaw.scope (He.DefD.dvs K dLaw) (He.DefD.kws K dLaw) (He.fAd K dLaw.at_) fd) (X : K.In h) (Gm : h.Ns mainGlobals mg) (c : He.SaysD fa fn K) : FnOk P w K mg base CX0 9 (He.ga K "law") fd ["_law_script"] (spLaw K) := by
  obtain ⟨fdLabelWorld_Standings, GLabelWorld_Standings, bLabelWorld_Standings, kpLabelWorld_Standings⟩ := ok_LabelWorld_Standings (P := P) (w := w) (base := base) X Gm c
  obtain ⟨fdLabelWorld_Nexts, GLabelWorld_Nexts, bLabelWorld_Nexts, kpLabelWorld_Nexts⟩ := ok_LabelWorld_Nexts (P := P) (w := w) (base := base) X Gm c
  obtain ⟨fdLStream, GLStream, bLStream, kpLStream⟩ := ok_LStream (P := P) (w := w) (base := base) X Gm c
  have mg__law_stream := He.glo_ok X Gm (c.fact 5 (f := .glo "_law_stream") rfl)
  obtain ⟨fdLDraw, GLDraw, bLDraw, kpLDraw⟩ := ok_LDraw (P := P) (w := w) (base := base) X Gm c
  have mg__law_draw := He.glo_ok X Gm (c.fact 7 (f := .glo "_law_draw") rfl)
  obtain ⟨fdLService, GLService, bLService, kpLService⟩ := ok_LService (P := P) (w := w) (base := base) X Gm c
  have mg__law_service := He.glo_ok X Gm (c.fact 9 (f := .glo "_law_service") rfl)
  obtain ⟨fdLOne, GLOne, bLOne, kpLOne⟩ := ok_LOne (P := P) (w := w) (base := base) X Gm c
  have mg__law_one := He.glo_ok X Gm (c.fact 12 (f := .glo "_law_one") rfl)
  obtain ⟨fdLTwo, GLTwo, bLTwo, kpLTwo⟩ := ok_LTwo (P := P) (w := w) (base := base) X Gm c
  have mg__law_two := He.glo_ok X Gm (c.fact 13 (f := .glo "_law_two") rfl)
  have mg_len := He.free_ok X Gm (c.fact 36 (f := .free "len") rfl)
  have mg_range := He.free_ok X Gm (c.fact 39 (f := .free "range") rfl)
  have clLabelWorld := He.cls_ok (c.fact 23 (f := .cls "LabelWorld") rfl)
  have naLabelWorld_things := He.noat_ok (c.fact 24 (f := .noat "LabelWorld" "things") rfl)
  have naLabelWorld_labels := He.noat_ok (c.fact 25 (f := .noat "LabelWorld" "labels") rfl)
  have mLabelWorld_Standings := He.meth_ok (c.fact 30 (f := .meth "LabelWorld" "standings") rfl)
  have mLabelWorld_Nexts := He.meth_ok (c.fact 32 (f := .meth "LabelWorld" "nexts") rfl)
  refine F.ok scLaw ?len (fun cdv A outer s H vs Q E hr hsp => ⟨_, PSs.nox (pss_cons (ps_set (i := 1) scLaw.nd rfl (by first | exact Or.inl rfl | exact Or.inr rfl) (pe_call GLStream (hr.mono (by decide)) (by rfl) mg__law_stream kpLStream bLStream .nil pass0 (pa_cons (pv 0) pa_nil)))
  (pss_cons (ps_set (i := 2) scLaw.nd rfl (by first | exact Or.inl rfl | exact Or.inr rfl) (pe_call GLService (hr.mono (by decide)) (by rfl) mg__law_service kpLService bLService .nil pass0 (pa_cons (pv 1) pa_nil)))
  (pss_cons (ps_setLc (i := 3) (own := [("_law_row", 5)]) (g := gName 5) (by rfl) scLaw.nd rfl rfl (sw_true rfl rfl rfl (by decide +kernel)) (pi_listK (K := K) rfl (pe_meth0 (pv 2) clLabelWorld mLabelWorld_Standings GLabelWorld_Standings (hr.mono (by decide)) bLabelWorld_Standings .nil pass0)) (blkOk_by (own := [("_law_row", 5)]) (N := ["_law_script", "_law_stream_here", "_law_service_here", "_law_rows", "_law_turn", "_law_row", "_law_gap", "_law_nexts", "_law_goal"]) (sc := defScope sLaw) (by decide +kernel)) (fun _ _ _ _ _ => by exact (pg_name (i := 5) scLaw.nd rfl (by first | exact Or.inl rfl | exact Or.inr rfl))) (fun _ _ _ _ _ => by exact (pts_one (pt_cmpR op_lt (pe_callB (call_lenK (K := K) rfl) (by rfl) mg_len PySem.boot_len (pa_cons (pv 5) pa_nil)) (pe_fldK (K := K) rfl (pv 2) rfl) (nomark _)))) (fun _ _ _ _ _ => by exact (pv 5)))
  (pss_cons (ps_for PassesOwn.never rfl (pi_range1 (by rfl) mg_range (pa_cons pe_int pa_nil)) (pg_name (i := 4) scLaw.nd rfl (by first | exact Or.inl rfl | exact Or.inr rfl))
  (pss_cons (ps_set (i := 5) scLaw.nd rfl (by first | exact Or.inl rfl | exact Or.inr rfl) (pe_ix (ix_listK (K := K) rfl) (pv 3) (pe_call GLDraw (hr.mono (by decide)) (by rfl) mg__law_draw kpLDraw bLDraw .nil pass0 (pa_cons (pv 1) (pa_cons (pe_callB (call_lenK (K := K) rfl) (by rfl) mg_len PySem.boot_len (pa_cons (pv 3) pa_nil)) pa_nil))) (fun _ _ => rfl)))
  (pss_cons (ps_set (i := 6) scLaw.nd rfl (by first | exact Or.inl rfl | exact Or.inr rfl) (pe_call GLDraw (hr.mono (by decide)) (by rfl) mg__law_draw kpLDraw bLDraw .nil pass0 (pa_cons (pv 1) (pa_cons (pe_op op_add (pe_callB (call_lenK (K := K) rfl) (by rfl) mg_len PySem.boot_len (pa_cons (pv 5) pa_nil)) pe_int) pa_nil))))
  (pss_cons (ps_set (i := 7) scLaw.nd rfl (by first | exact Or.inl rfl | exact Or.inr rfl) (pe_meth (pv 2) clLabelWorld mLabelWorld_Nexts GLabelWorld_Nexts (hr.mono (by decide)) bLabelWorld_Nexts .nil pass0 (pa_cons (pv 5) (pa_cons (pv 6) pa_nil))))
  (pss_cons (ps_if (pt_cmpR op_eq (pe_callB (call_lenK (K := K) rfl) (by rfl) mg_len PySem.boot_len (pa_cons (pv 7) pa_nil)) pe_int (nomark _))
  (pss_one (ps_ret pe_bl)) pss_nil)
  (pss_cons (ps_set (i := 8) scLaw.nd rfl (by first | exact Or.inl rfl | exact Or.inr rfl) (pe_ix (ix_listK (K := K) rfl) (pv 7) (pe_call GLDraw (hr.mono (by decide)) (by rfl) mg__law_draw kpLDraw bLDraw .nil pass0 (pa_cons (pv 1) (pa_cons (pe_callB (call_lenK (K := K) rfl) (by rfl) mg_len PySem.boot_len (pa_cons (pv 7) pa_nil)) pa_nil))) (fun _ _ => rfl)))
  (pss_one (ps_if (PW.pt (pw_or (pt_not (pt_val (pe_call GLOne (hr.mono (by decide)) (by rfl) mg__law_one kpLOne bLOne .nil pass0 (pa_cons (pv 1) (pa_cons (pv 2) (pa_cons (pv 5) (pa_cons (pv 6) (pa_cons (pv 8) pa_nil)))))))) (pw_or1 (pt_not (pt_val (pe_call GLTwo (hr.mono (by decide)) (by rfl) mg__law_two kpLTwo bLTwo .nil pass0 (pa_cons (pv 1) (pa_cons (pv 2) (pa_cons (pv 5) (pa_cons (pv 6) (pa_cons (pv 8) pa_nil)))))))))))
  (pss_one (ps_ret pe_bl)) pss_nil))))))))
  (pss_one (ps_ret pe_bl)))))), ?_⟩)
  case len => rintro vs H Q E ⟨a, ns, rfl, _⟩; rfl
  obtain ⟨a, ns, rfl, hS, hQ⟩ := hsp
  refine ⟨_, rfl, a, ns, rfl, hS, fun st cl H' ne hst hcl sm str => ?_⟩
  have hd := dr_str ne
  have key : ∀ (t2 : TS) (D : Ends) (σ : L2.St), Bl (strM st cl ne) E0 t2 [none, some (vv (.ref st)), none, none, none, none, none, none, none] { rt := fun R => R = db K true } → D.rt = Q → σ = [some (.ref a), some (.ref st), none, none, none, none, none, none, none] → t2 D σ H' := by
    intro t2 D σ b hD hσ
    subst hσ
    refine b _ H H' D ⟨rfl, fun i P e => ?_⟩ ⟨sm, str, fun b' e => by cases e; exact hst⟩ ⟨fun _ _ _ _ z => z.elim, fun S v G' H2 e g p => ?_, fun _ _ _ _ z => z.elim, fun _ _ _ _ z => z.elim, fun _ _ _ _ _ _ z => z.elim⟩
    · match i, e with
      | 1, e => cases e; exact ⟨_, rfl, rfl⟩
      | 0, e => cases e
      | 2, e => cases e
      | 3, e => cases e
      | 4, e => cases e
      | 5, e => cases e
      | 6, e => cases e
      | 7, e => cases e
      | 8, e => cases e
      | (n + 9), e => simp at e
    · cases e; cases p; rw [hD]; exact hQ H2
  refine key (tSeq _ _) { nx := fun _ H' => Q .non H', rt := Q } _ ?_ rfl rfl
  refine bl_setE (ev_call (F := FService K) (ea_cons (ev_var rfl) ea_nil) ⟨st, cl, hd, rfl, rfl⟩) ?_
  rintro ⟨t, l⟩ sv
  have sv : Svc t l := sv
  have hl := sv.ls; have ht := sv.t4; have tl := sv.tl
  have lenA := allR_len sv
  refine bl_set (P := dd K (.list ((notFull t l).map tupI))) (by
    have z := ev_lc (K := K) (m := strM st cl ne) (b := fun i => decide (((allR t l).getD i []).length < t)) (f := fun i => tupI ((allR t l).getD i [])) (wk_list (ev_meth (E := E0) (F := FStandings K) (S := dd K (.list ((allR t l).map tupI))) (m := strM st cl ne) (ta := tVar 2) (tA := tNil) (mn := "standings") (δ := [none, some (vv (.ref st)), some (lw K t l), none, none, none, none, none, none]) (ps := [("things", di K t), ("labels", di K l)]) (ev_var rfl) (by kernel_rfl) ea_nil ⟨t, l, sv, rfl, rfl⟩)) (vs := [5]) (j := 5) (by decide) (by rw [List.length_map]; omega)
      (tt := tTest (tOp (rI0 fun i j => .bl (decide (i < j))) (tCB (fun xs H Q => ∃ p ys, xs = [V.ref p] ∧ (SqL K H p ys ∨ SqT K H p ys) ∧ Q (.int ys.length) H) (tCons (tVar 5) tNil)) (tFld K (tVar 2) "things"))) (te := tVar 5) ?t ?e
    rw [List.length_map, filt_rows (b := fun q => decide (q.length < t))] at z
    exact z
    case t =>
      intro D o _ i hi
      rw [List.length_map] at hi
      rw [getD_tup hi]
      refine (eb_test (ev_lt (K := K) (ev_cb (ea_cons (ev_var rfl) ea_nil) cb_lenT) (ev_fld (P := di K t) (ps := [("things", di K t), ("labels", di K l)]) (ev_var rfl) clLabelWorld naLabelWorld_things rfl))).to ?_
      rw [List.length_map]
      by_cases e : ((allR t l).getD i []).length < t
      · rw [decide_eq_true e, decide_eq_true (by omega)]
      · rw [decide_eq_false e, decide_eq_false (by omega)]
    case e =>
      intro D o _ i hi _
      rw [List.length_map] at hi
      rw [getD_tup hi]
      exact ev_var rfl) ?_
  have pos := notFull_pos sv; have le := notFull_le sv
  refine bl_for (fun i d => ∃ x4 x5 x6 x7 x8 : Option Pd, d = [none, some (vv (.ref st)), some (lw K t l), some (dd K (.list ((notFull t l).map tupI))), x4, x5, x6, x7, x8]) (wk_rng1 (K := K) (ea_cons ev_int ea_nil) (by decide) (by decide)) ⟨none, none, none, none, none, rfl⟩ ?_ ?_
  · rintro i _ hi ⟨x4, x5, x6, x7, x8, rfl⟩
    refine bl_setE (ev_ixE (K := K) (ev_var rfl) (ev_draw (K := K) hd (ea_cons (ev_var rfl) (ea_cons (ev_cb (ea_cons (ev_var rfl) ea_nil) cb_lenL) ea_nil)) (by rw [List.length_map]; omega) (by rw [List.length_map]; omega)) rfl) ?_
    intro rd hrd
    obtain ⟨r, hrm, rfl⟩ := List.mem_map.mp hrd
    obtain ⟨hr, hlt⟩ := notFull_mem sv hrm
    have hr0 := (isRow_of (t := t) hl (show r.length ≤ 4 by omega) hr (by omega)).1
    refine bl_setE (ev_draw (K := K) hd (ea_cons (ev_var rfl) (ea_cons (ev_add (ev_cb (ea_cons (ev_var rfl) ea_nil) cb_lenT) ev_int) ea_nil)) (by omega) (by rw [List.length_map]; omega)) ?_
    rintro x ⟨h0, h1⟩
    rw [List.length_map] at h1
    obtain ⟨g, rfl⟩ : ∃ g : Nat, x = (g : Int) := ⟨x.toNat, by omega⟩
    have lenN := K53.rows_len hl (show r.length + 1 ≤ 4 by omega)
    have neN := K53.rows_ne hl (show r.length + 1 ≤ 4 by omega) (by omega)
    refine bl_set (ev_meth (F := FNexts K) (ps := [("things", di K t), ("labels", di K l)]) (ev_var rfl) (by kernel_rfl) (ea_cons (ev_var rfl) (ea_cons (ev_var rfl) ea_nil)) ⟨t, l, g, r, sv, hr0, hlt, by omega, rfl, rfl⟩) ?_
    refine bl_ifR ((eb_test (ev_eqI (K := K) (ev_cb (ea_cons (ev_var rfl) ea_nil) cb_lenL) ev_int)).to (b' := false) ?_) (fun hb => by cases hb) (fun _ => bl_nextS ?_)
    · exact decide_eq_false (by rw [List.length_map]; omega)
    refine bl_setE (ev_ixE (K := K) (ev_var rfl) (ev_draw (K := K) hd (ea_cons (ev_var rfl) (ea_cons (ev_cb (ea_cons (ev_var rfl) ea_nil) cb_lenL) ea_nil)) (by rw [List.length_map]; omega) (by rw [List.length_map]; omega)) rfl) ?_
    intro sd hsd
    obtain ⟨s', hsm, rfl⟩ := List.mem_map.mp hsd
    have dr : Drawn t l g r s' := ⟨sv, hr, hlt, by omega, hsm⟩
    refine bl_if ((eb_or (eb_not (eb_tB (ev_call (F := FOne K) (S := db K true) (ea_cons (ev_var rfl) (ea_cons (ev_var rfl) (ea_cons (ev_var rfl) (ea_cons (ev_var rfl) (ea_cons (ev_var rfl) ea_nil))))) ⟨st, cl, t, l, g, r, s', hd, dr, rfl, rfl⟩))) fun _ => eb_not (eb_tB (ev_call (F := FDuo K) (S := db K true) (ea_cons (ev_var rfl) (ea_cons (ev_var rfl) (ea_cons (ev_var rfl) (ea_cons (ev_var rfl) (ea_cons (ev_var rfl) ea_nil))))) ⟨st, cl, t, l, g, r, s', hd, dr, rfl, rfl⟩))).to (b' := false) rfl) (fun hb => by cases hb) (fun _ => bl_next ⟨_, _, _, _, _, rfl⟩)
  · rintro d ⟨x4, x5, x6, x7, x8, rfl⟩
    exact bl_ret (ev_bl (K := K)) rfl

end Law

namespace Law
open PySem PySem.Spec PyProof.Rows L2 Nd
abbrev R : PySem.W.OpenRow := PySem.W.OpenLaw.row PySem.Challenge.rw_neverowing_k53_whole_labels_mirrored_and
abbrev hk : PySem.W.Hook := He.hookD 5 fa fn
def ob (s : PySem.W.SharedT) : He.AlD := He.obsDG 5 fa fn (HandSHeadRun.getT s)
theorem ob_eq (s : PySem.W.SharedT) : ob s = hk.obs s.abs := He.obsDG_eq (HandSHeadRun.getT_eq s)
theorem run (w : World) : HandSHeadRun.RunEq R (PySem.W.view R.prog [28]) hk ob 4000 loose w := by
  intro os
  kernel_rfl
end Law

namespace Law
open PySem PySem.Spec PyProof.Rows L2 Nd
theorem law_facts {P : Program} {w : World} {K : PySem.W.Frag} {h : Heap} {mg : Str → Option Value} {f : Addr} (X : K.In h) (G : h.Ns mainGlobals mg) (hfa : mg ("law" : Str) = some (.ref f)) (c : He.SaysD fa fn K) :
    ∃ fd : FuncData, (∀ (s : Shared) (v : Value), BindsTo s fd ⟨[v], []⟩ [("_law_script", v)]) ∧ ∀ base : Heap, K.In base → base.Ns mainGlobals mg → FnOk P w K mg base CX0 9 f fd ["_law_script"] (spLaw K) := by
  obtain ⟨fd, F⟩ := c.def_ 24 (d := dLaw) rfl
  have e := hfa.symm.trans (He.glo_ok X G (c.fact 14 (f := .glo "law") rfl))
  cases e
  have b := FunD.bindsA (ps := ["_law_script"]) F fun _ _ _ _ _ _ us hl => match us, hl with | [_], _ => rfl
  exact ⟨fd, fun s v => b s [v] rfl, fun base _ _ => ok_Law F X G c⟩
end Law
open PySem PySem.W PySem.Calls PyProof.Rows
theorem PySem.Challenge.cw_neverowing_k53_whole_labels_mirrored_and_holds : PySem.Challenge.rw_neverowing_k53_whole_labels_mirrored_and.Holds := by
  w_on; o_law
  refine HandSHeadRun.head_any (r := Law.R) (q := view Law.R.prog [28]) (H := Law.hk) (ob := Law.ob) (M := 4000) (loose := Law.loose) (d := HandSHeadRun.topDef Law.R.prog 28) (kwd := []) Law.ob_eq
    (by kernel_rfl) (fun s => by kernel_rfl) Law.run (by kernel_rfl) (by kernel_rfl) (by kernel_rfl) (by rfl) (by first | assumption | decide +kernel) (by decide +kernel) ⟨rfl, rfl, rfl, rfl, rfl, by decide +kernel⟩ ?hw ?hc
  case hw => w_witness2
  case hc =>
    refine L2.walk_ofE (l := PySem.Challenge.rw_neverowing_k53_whole_labels_mirrored_and) (n := 63) (k := 9) (x := "_law_script") (CX := L2.CX0) rfl (by decide) (by kernel_rfl) ⟨rfl, by decide, by decide⟩ ?F (fun _ _ _ _ z => z)
    intro w mg fa h Y G hmg0
    obtain ⟨K, KX, c⟩ := Y
    have hmg : mg ("law" : PySem.Str) = some (.ref fa) := by
      have e : (HandSHeadRun.topDef Law.R.prog 28).name = ("law" : PySem.Str) := by kernel_rfl
      rw [← e]
      exact hmg0
    obtain ⟨fd, hb, hF⟩ := Law.law_facts (P := (PySem.Challenge.rw_neverowing_k53_whole_labels_mirrored_and).prog) (w := w) KX G hmg c
    exact ⟨K, fd, Law.spLaw K, KX, hb, fun H a ns hl _ hS => ⟨a, ns, rfl, hS, fun _ => rfl⟩, hF⟩
