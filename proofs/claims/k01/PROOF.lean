import PyProof.Rows.All
import Wide.All
import OpenK.AllK
import Wide.FinOn
import PyProof.EqAt
import PyProof.EqKinds
import PyProof.TupleCall
import KE.KStateDown
import Lean
import HandS.ForMost
import HandS.TupAny
import HandS.IsInst
import HandS.Flow
import HandS.Style
import HandS.Zip
import HandS.Walk
import HandS.Sort
import HandS.Defaults
import HandS.Head0
import HandS.Head1
import HandS.Head2
import HandS.HeadEnd
import HandS.HeadHook1
import HandS.HeadHook2
import KE.KExcSuper
import KE.KExcMake
import HandS.ExcSuper
import HandS.Ends
import HandS.ExcOwn
import HandS.Lambda
import HandS.MakeKw
import HandS.MakeKwOnly
import KE.KExcIs
import HandS.ExcValue
import HandS.DictComp
import PySem.Challenge.RW_neverowing_k01_errors_of_the_package
set_option Elab.async false
set_option linter.all false
set_option maxRecDepth 100000
set_option maxHeartbeats 0
namespace Nd
open PySem L2

/-- chg: what may be written by whoever runs; inv: what holds of it at every moment; dep: what inv speaks of -/
structure Md where
  chg : Addr → Prop
  dep : Addr → Prop
  inv : Hp → Prop
  sub : ∀ a, chg a → dep a
  mono : ∀ H H', inv H → (∀ a o, dep a → H a = some o → H' a = some o) → inv H'
  has : ∀ H a, inv H → dep a → ∃ o, H a = some o
/-- nothing is written -/
def pureM : Md := ⟨fun _ => False, fun _ => False, fun _ => True, fun _ h => h, fun _ _ _ _ => trivial, fun _ _ _ h => h.elim⟩
theorem Md.same {m : Md} {H H' : Hp} (h : m.inv H) (s : Same H H') : m.inv H' := m.mono H H' h fun a o _ e => s a o e
theorem Md.fresh {m : Md} {H : Hp} {a : Addr} (h : m.inv H) (e : H a = none) : ¬ m.dep a := fun d => by
  obtain ⟨o, z⟩ := m.has H a h d
  rw [e] at z; cases z
theorem Md.upd {m : Md} {H : Hp} {a : Addr} {o : HO} (h : m.inv H) (e : ¬ m.dep a) : m.inv (L2.upd H a o) := m.mono H _ h fun b u d q => by
  rw [upd_ne]
  · exact q
  · intro z; subst z; exact e d
/-- one object more is held, as it is -/
def Md.hold (m : Md) (D : Addr) (o : HO) : Md where
  chg := fun a => m.chg a ∨ a = D
  dep := fun a => m.dep a ∨ a = D
  inv := fun H => m.inv H ∧ H D = some o
  sub := fun a h => h.imp (m.sub a) id
  mono := fun H H' h k => ⟨m.mono H H' h.1 fun a o d => k a o (.inl d), k D o (.inr rfl) h.2⟩
  has := fun H a h d => d.elim (fun z => m.has H a h.1 z) fun z => ⟨o, by rw [z]; exact h.2⟩
/-- G is the known part of H -/
structure Cn (m : Md) (G H : Hp) : Prop where
  gh : Same G H
  iv : m.inv H
  nm : ∀ a, m.chg a → G a = none
structure Go (m : Md) (G H G' H' : Hp) : Prop where
  gg : Same G G'
  gh : Same G' H'
  fr : ∀ a o, G' a = some o → G a = none → H a = none
  r : ∀ a o, ¬ m.chg a → H a = some o → H' a = some o
  iv : m.inv H'
section
variable {m : Md} {G H G' H' G1 H1 G2 H2 : Hp}
theorem Go.refl (c : Cn m G H) : Go m G H G H := ⟨Same.refl G, c.gh, fun _ _ h n => (by rw [h] at n; cases n), fun _ _ _ h => h, c.iv⟩
theorem Go.dom (t : Go m G H G' H') {a : Addr} (h : H' a = none) : H a = none := by
  cases q : H a with
  | none => rfl
  | some o =>
    by_cases e : m.chg a
    · obtain ⟨o', z⟩ := m.has H' a t.iv (m.sub a e)
      rw [h] at z; cases z
    · rw [t.r a o e q] at h; cases h
theorem Go.trans (t : Go m G H G1 H1) (u : Go m G1 H1 G2 H2) : Go m G H G2 H2 where
  gg := t.gg.trans u.gg
  gh := u.gh
  fr := fun a o h n => by
    cases q : G1 a with
    | none => exact t.dom (u.fr a o h q)
    | some o' => exact t.fr a o' q n
  r := fun a o e h => u.r a o e (t.r a o e h)
  iv := u.iv
theorem Go.cn (t : Go m G H G' H') (c : Cn m G H) : Cn m G' H' where
  gh := t.gh
  iv := t.iv
  nm := fun a e => by
    cases q : G' a with
    | none => rfl
    | some o =>
      have h := t.fr a o q (c.nm a e)
      obtain ⟨o', z⟩ := m.has H a c.iv (m.sub a e)
      rw [h] at z; cases z
/-- a new object, known from now on -/
theorem Go.new (c : Cn m G H) {p : Addr} {o : HO} (hp : H p = none) : Go m G H (upd G p o) (upd H p o) := by
  have s : Same H (upd H p o) := fun a u e => by rw [upd_ne (ne_of_none e hp)]; exact e
  refine ⟨fun a u e => ?_, fun a u e => ?_, fun a u e n => ?_, fun a u _ e => s a u e, Md.same c.iv s⟩
  · rw [upd_ne (ne_of_none (c.gh a u e) hp)]; exact e
  · by_cases q : a = p
    · subst q; rw [upd_same] at e ⊢; exact e
    · rw [upd_ne q] at e ⊢; exact c.gh a u e
  · by_cases q : a = p
    · subst q; exact hp
    · rw [upd_ne q] at e; rw [e] at n; cases n
/-- back from a held object -/
theorem Go.unhold {D : Addr} {o : HO} (t : Go (m.hold D o) G H G' H') (c : H D = some o) : Go m G H G' H' where
  gg := t.gg
  gh := t.gh
  fr := t.fr
  r := fun a u e h => by
    by_cases q : a = D
    · subst q
      rw [c] at h; cases h
      exact t.iv.2
    · exact t.r a u (fun z => z.elim e q) h
  iv := t.iv.1
/-- nothing but new things -/
theorem Go.same (c : Cn m G H) (s : Same H H') : Go m G H G H' := ⟨Same.refl G, c.gh.trans s, fun _ _ h n => (by rw [h] at n; cases n), fun a o _ h => s a o h, Md.same c.iv s⟩
end

structure Pd where
  φ : V → Hp → Prop
  mono : ∀ v G G', φ v G → Same G G' → φ v G'
end Nd
namespace L2
open PySem
section
variable {K : PySem.W.Frag}
theorem SqL.mono {G G' : Hp} {a : Addr} {xs : List V} (h : SqL K G a xs) (s : Same G G') : SqL K G' a xs := s.seq h
theorem SqT.mono {G G' : Hp} {a : Addr} {xs : List V} (h : SqT K G a xs) (s : Same G G') : SqT K G' a xs := by
  rcases h with (h | ⟨o, h⟩) | h
  · exact .inl (.inl (s _ _ h))
  · exact .inl (.inr ⟨o, s _ _ h⟩)
  · exact .inr h
mutual
theorem Dp.mono {G G' : Hp} (s : Same G G') : ∀ {v : V} {d : PyData}, Dp K G v d → Dp K G' v d
  | _, _, .non => .non
  | _, _, .bl b => .bl b
  | _, _, .int i => .int i
  | _, _, .str x => .str x
  | _, _, .lst h a => .lst (SqL.mono h s) (DpAll.mono s a)
  | _, _, .tup h a => .tup (SqT.mono h s) (DpAll.mono s a)
theorem DpAll.mono {G G' : Hp} (s : Same G G') : ∀ {vs : List V} {ds : List PyData}, DpAll K G vs ds → DpAll K G' vs ds
  | _, _, .nil => .nil
  | _, _, .cons h t => .cons (Dp.mono s h) (DpAll.mono s t)
end
theorem DpAll.length {G : Hp} : ∀ {vs : List V} {ds : List PyData}, DpAll K G vs ds → vs.length = ds.length
  | _, _, .nil => rfl
  | _, _, .cons _ t => congrArg (· + 1) (DpAll.length t)
theorem DpAll.get {G : Hp} : ∀ {vs : List V} {ds : List PyData} {i : Nat} {d : PyData}, DpAll K G vs ds → ds[i]? = some d → ∃ v, vs[i]? = some v ∧ Dp K G v d
  | _, _, _, _, .nil, e => by simp at e
  | _, _, 0, _, .cons h _, e => by simp at e; subst e; exact ⟨_, rfl, h⟩
  | _, _, i + 1, d, .cons _ t, e => by
    obtain ⟨v, h1, h2⟩ := DpAll.get (i := i) (d := d) t (by simpa using e)
    exact ⟨v, by simpa using h1, h2⟩
theorem DpAll.getV {G : Hp} : ∀ {vs : List V} {ds : List PyData} {i : Nat} {v : V}, DpAll K G vs ds → vs[i]? = some v → ∃ d, ds[i]? = some d ∧ Dp K G v d
  | _, _, _, _, .nil, e => by simp at e
  | _, _, 0, _, .cons h _, e => by simp at e; subst e; exact ⟨_, rfl, h⟩
  | _, _, i + 1, v, .cons _ t, e => by
    obtain ⟨d, h1, h2⟩ := DpAll.getV (i := i) (v := v) t (by simpa using e)
    exact ⟨d, by simpa using h1, h2⟩
theorem DpAll.append {G : Hp} : ∀ {vs ws : List V} {ds es : List PyData}, DpAll K G vs ds → DpAll K G ws es → DpAll K G (vs ++ ws) (ds ++ es)
  | _, _, _, _, .nil, h => h
  | _, _, _, _, .cons a t, h => .cons a (DpAll.append t h)
theorem DpAll.take {G : Hp} : ∀ {vs : List V} {ds : List PyData} (n : Nat), DpAll K G vs ds → DpAll K G (vs.take n) (ds.take n)
  | _, _, 0, _ => .nil
  | _, _, _ + 1, .nil => .nil
  | _, _, n + 1, .cons h t => .cons h (DpAll.take n t)
theorem DpAll.drop {G : Hp} : ∀ {vs : List V} {ds : List PyData} (n : Nat), DpAll K G vs ds → DpAll K G (vs.drop n) (ds.drop n)
  | _, _, 0, h => h
  | _, _, _ + 1, .nil => .nil
  | _, _, n + 1, .cons _ t => DpAll.drop n t
theorem DpAll.ints {G : Hp} : ∀ {vs : List V} {ns : List Int}, DpAll K G vs (ns.map PyData.int) → vs = ns.map V.int
  | _, [], .nil => rfl
  | _, _ :: ns, .cons h t => by
    cases h
    rw [DpAll.ints t]; rfl
theorem DpAll.ofInts {G : Hp} : ∀ (ns : List Int), DpAll K G (ns.map V.int) (ns.map PyData.int)
  | [] => .nil
  | n :: ns => .cons (.int n) (DpAll.ofInts ns)
end
end L2
namespace Nd
open PySem L2
section
variable (K : PySem.W.Frag)
/-- data -/
def dd (d : PyData) : Pd := ⟨fun v G => Dp K G v d, fun _ _ _ h s => Dp.mono s h⟩
/-- this very value -/
def vv (v : V) : Pd := ⟨fun x _ => x = v, fun _ _ _ h _ => h⟩
abbrev di (i : Int) : Pd := dd K (.int i)
abbrev db (b : Bool) : Pd := dd K (.bool b)
end
/-- the slots described -/
def Sl (G : Hp) (σ : L2.St) (δ : List (Option Pd)) : Prop := σ.length = δ.length ∧ ∀ (i : Nat) (P : Pd), δ[i]? = some (some P) → ∃ v, σ[i]? = some (some v) ∧ P.φ v G
section
variable {G G' : Hp} {σ : L2.St} {δ : List (Option Pd)}
theorem Sl.mono (h : Sl G σ δ) (s : Same G G') : Sl G' σ δ := ⟨h.1, fun i P e => let ⟨v, a, b⟩ := h.2 i P e; ⟨v, a, P.mono _ _ _ b s⟩⟩
theorem Sl.set (h : Sl G σ δ) {i : Nat} {v : V} {P : Pd} (p : P.φ v G) : Sl G (σ.set i (some v)) (δ.set i (some P)) := by
  refine ⟨by rw [List.length_set, List.length_set]; exact h.1, fun j R e => ?_⟩
  by_cases hj : i = j
  · subst hj
    by_cases hi : i < δ.length
    · rw [List.getElem?_set_self hi] at e
      cases e
      exact ⟨v, List.getElem?_set_self (by rw [h.1]; exact hi), p⟩
    · rw [List.getElem?_eq_none (by rw [List.length_set]; omega)] at e; cases e
  · rw [List.getElem?_set_ne hj] at e
    obtain ⟨w, a, b⟩ := h.2 j R e
    exact ⟨w, by rw [List.getElem?_set_ne hj]; exact a, b⟩
/-- forgetting -/
theorem Sl.weak {δ' : List (Option Pd)} (h : Sl G σ δ) (hl : δ'.length = δ.length) (w : ∀ (i : Nat) P, δ'[i]? = some (some P) → δ[i]? = some (some P)) : Sl G σ δ' := ⟨h.1.trans hl.symm, fun i P e => h.2 i P (w i P e)⟩
end

def EvD (m : Md) (te : TE) (δ : List (Option Pd)) (P : Pd) : Prop :=
  ∀ (σ : L2.St) (G H : Hp), Sl G σ δ → Cn m G H → ∀ Q : VK, (∀ v G' H', Go m G H G' H' → P.φ v G' → Q v H') → te σ H Q
def EvB (m : Md) (tt : TT) (δ : List (Option Pd)) (b : Bool) : Prop :=
  ∀ (σ : L2.St) (G H : Hp), Sl G σ δ → Cn m G H → ∀ Q : Bool → Hp → Prop, (∀ G' H', Go m G H G' H' → Q b H') → tt σ H Q
/-- arguments -/
inductive All2 (G : Hp) : List V → List Pd → Prop
  | nil : All2 G [] []
  | cons {v : V} {vs : List V} {P : Pd} {Ps : List Pd} : P.φ v G → All2 G vs Ps → All2 G (v :: vs) (P :: Ps)
theorem All2.mono {G G' : Hp} (s : Same G G') : ∀ {vs : List V} {Ps : List Pd}, All2 G vs Ps → All2 G' vs Ps
  | _, _, .nil => .nil
  | _, P :: _, .cons h t => .cons (P.mono _ _ _ h s) (All2.mono s t)
theorem All2.length {G : Hp} : ∀ {vs : List V} {Ps : List Pd}, All2 G vs Ps → vs.length = Ps.length
  | _, _, .nil => rfl
  | _, _, .cons _ t => congrArg (· + 1) (All2.length t)
def EvA (m : Md) (ta : TA) (δ : List (Option Pd)) (Ps : List Pd) : Prop :=
  ∀ (σ : L2.St) (G H : Hp), Sl G σ δ → Cn m G H → ∀ Q : List V → Hp → Prop, (∀ vs G' H', Go m G H G' H' → All2 G' vs Ps → Q vs H') → ta σ H Q
section
variable {K : PySem.W.Frag} {m : Md} {δ : List (Option Pd)} {ta tb te : TE} {t u : TT} {P R S : Pd}
theorem ev_var {i : Nat} (h : δ[i]? = some (some P)) : EvD m (tVar i) δ P := fun σ G H s c Q q =>
  let ⟨v, a, b⟩ := s.2 i P h
  ⟨v, a, q v G H (Go.refl c) b⟩
theorem ev_c {v : V} (h : ∀ G, P.φ v G) : EvD m (tC v) δ P := fun σ G H s c Q q => q v G H (Go.refl c) (h G)
theorem ev_int {i : Int} : EvD m (tC (.int i)) δ (di K i) := ev_c fun _ => .int i
theorem ev_bl {b : Bool} : EvD m (tC (.bl b)) δ (db K b) := ev_c fun _ => .bl b
theorem ev_str {x : Str} : EvD m (tC (.str x)) δ (dd K (.str x)) := ev_c fun _ => .str x
theorem ev_non : EvD m (tC .non) δ (dd K .none) := ev_c fun _ => .non
theorem ev_val {v : V} : EvD m (tC v) δ (vv v) := ev_c fun _ => rfl
theorem EvD.to (h : EvD m te δ P) (e : ∀ v G, P.φ v G → R.φ v G) : EvD m te δ R := fun σ G H s c Q q => h σ G H s c Q fun v G' H' t p => q v G' H' t (e _ _ p)
theorem EvB.to {b b' : Bool} (h : EvB m t δ b) (e : b = b') : EvB m t δ b' := e ▸ h
/-- a two-place operation on values -/
def OpD (m : Md) (r : R2) (P R S : Pd) : Prop := ∀ x y G H, Cn m G H → P.φ x G → R.φ y G → ∀ Q : VK, (∀ v G' H', Go m G H G' H' → S.φ v G' → Q v H') → r x y H Q
theorem ev_op {r : R2} (ha : EvD m ta δ P) (hb : EvD m tb δ R) (hr : OpD m r P R S) : EvD m (tOp r ta tb) δ S := fun σ G H s c Q q =>
  ha σ G H s c _ fun x G1 H1 t1 p1 => hb σ G1 H1 (s.mono t1.gg) (t1.cn c) _ fun y G2 H2 t2 p2 =>
    hr x y G2 H2 (t2.cn (t1.cn c)) (P.mono _ _ _ p1 t2.gg) p2 Q fun v G3 H3 t3 p3 => q v G3 H3 ((t1.trans t2).trans t3) p3
theorem od_I0 {g : Int → Int → V} {i j : Int} (h : ∀ G, S.φ (g i j) G) : OpD m (rI0 g) (di K i) (di K j) S := fun x y G H c px py Q q => by
  cases px
  cases py
  exact ⟨i, j, rfl, rfl, q _ G H (Go.refl c) (h G)⟩
theorem od_I {C : Int → Int → Prop} {g : Int → Int → V} {i j : Int} (hc : C i j) (h : ∀ G, S.φ (g i j) G) : OpD m (rI C g) (di K i) (di K j) S := fun x y G H c px py Q q => by
  cases px
  cases py
  exact ⟨i, j, rfl, rfl, hc, q _ G H (Go.refl c) (h G)⟩
end
end Nd

namespace Nd
open PySem L2
section
variable {K : PySem.W.Frag} {m : Md} {δ : List (Option Pd)} {ta tb tc te : TE} {t u : TT} {P R S T : Pd}
theorem ev_add {i j : Int} (ha : EvD m ta δ (di K i)) (hb : EvD m tb δ (di K j)) : EvD m (tOp (rI0 fun i j => .int (i + j)) ta tb) δ (di K (i + j)) := ev_op ha hb (od_I0 fun _ => .int _)
theorem ev_sub {i j : Int} (ha : EvD m ta δ (di K i)) (hb : EvD m tb δ (di K j)) : EvD m (tOp (rI0 fun i j => .int (i - j)) ta tb) δ (di K (i - j)) := ev_op ha hb (od_I0 fun _ => .int _)
theorem ev_mul {i j : Int} (ha : EvD m ta δ (di K i)) (hb : EvD m tb δ (di K j)) (hc : CMul i j) : EvD m (tOp (rI CMul fun i j => .int (i * j)) ta tb) δ (di K (i * j)) := ev_op ha hb (od_I hc fun _ => .int _)
theorem ev_mod {i j : Int} (ha : EvD m ta δ (di K i)) (hb : EvD m tb δ (di K j)) (hc : 0 < j) : EvD m (tOp (rI (fun _ j => 0 < j) fun i j => .int (i % j)) ta tb) δ (di K (i % j)) := ev_op ha hb (od_I hc fun _ => .int _)
theorem ev_fdiv {i j : Int} (ha : EvD m ta δ (di K i)) (hb : EvD m tb δ (di K j)) (hc : CDiv i j) : EvD m (tOp (rI CDiv fun i j => .int (i / j)) ta tb) δ (di K (i / j)) := ev_op ha hb (od_I hc fun _ => .int _)
theorem ev_lt {i j : Int} (ha : EvD m ta δ (di K i)) (hb : EvD m tb δ (di K j)) : EvD m (tOp (rI0 fun i j => .bl (decide (i < j))) ta tb) δ (db K (decide (i < j))) := ev_op ha hb (od_I0 fun _ => .bl _)
theorem ev_le {i j : Int} (ha : EvD m ta δ (di K i)) (hb : EvD m tb δ (di K j)) : EvD m (tOp (rI0 fun i j => .bl (decide (i ≤ j))) ta tb) δ (db K (decide (i ≤ j))) := ev_op ha hb (od_I0 fun _ => .bl _)
theorem ev_gt {i j : Int} (ha : EvD m ta δ (di K i)) (hb : EvD m tb δ (di K j)) : EvD m (tOp (rI0 fun i j => .bl (decide (j < i))) ta tb) δ (db K (decide (j < i))) := ev_op ha hb (od_I0 fun _ => .bl _)
theorem ev_ge {i j : Int} (ha : EvD m ta δ (di K i)) (hb : EvD m tb δ (di K j)) : EvD m (tOp (rI0 fun i j => .bl (decide (j ≤ i))) ta tb) δ (db K (decide (j ≤ i))) := ev_op ha hb (od_I0 fun _ => .bl _)
theorem dec_int (i j : Int) : decide (V.int i = V.int j) = decide (i = j) := by
  by_cases h : i = j
  · subst h; simp
  · rw [decide_eq_false h, decide_eq_false]
    intro e; cases e; exact h rfl
theorem ev_eqI {i j : Int} (ha : EvD m ta δ (di K i)) (hb : EvD m tb δ (di K j)) : EvD m (tOp rEq ta tb) δ (db K (decide (i = j))) := ev_op ha hb fun x y G H c px py Q q => by
  cases px; cases py
  exact ⟨rfl, q _ G H (Go.refl c) (by rw [dec_int]; exact .bl _)⟩
theorem ev_neI {i j : Int} (ha : EvD m ta δ (di K i)) (hb : EvD m tb δ (di K j)) : EvD m (tOp rNe ta tb) δ (db K (!decide (i = j))) := ev_op ha hb fun x y G H c px py Q q => by
  cases px; cases py
  exact ⟨rfl, q _ G H (Go.refl c) (by rw [dec_int]; exact .bl _)⟩
theorem dec_bl (i j : Bool) : decide (V.bl i = V.bl j) = decide (i = j) := by
  by_cases h : i = j
  · subst h; simp
  · rw [decide_eq_false h, decide_eq_false]
    intro e; cases e; exact h rfl
theorem ev_eqB {i j : Bool} (ha : EvD m ta δ (db K i)) (hb : EvD m tb δ (db K j)) : EvD m (tOp rEq ta tb) δ (db K (decide (i = j))) := ev_op ha hb fun x y G H c px py Q q => by
  cases px; cases py
  exact ⟨rfl, q _ G H (Go.refl c) (by rw [dec_bl]; exact .bl _)⟩
theorem ev_neB {i j : Bool} (ha : EvD m ta δ (db K i)) (hb : EvD m tb δ (db K j)) : EvD m (tOp rNe ta tb) δ (db K (!decide (i = j))) := ev_op ha hb fun x y G H c px py Q q => by
  cases px; cases py
  exact ⟨rfl, q _ G H (Go.refl c) (by rw [dec_bl]; exact .bl _)⟩
theorem ev_neg {i : Int} (ha : EvD m ta δ (di K i)) : EvD m (tUn (rU fun i => .int (-i)) ta) δ (di K (-i)) := fun σ G H s c Q q => ha σ G H s c _ fun x G1 H1 t p => by
  cases p
  exact ⟨i, rfl, q _ G1 H1 t (.int _)⟩
/-- a chain of two comparisons of ints -/
theorem ev_chain {f g : Int → Int → Bool} {i j k : Int} (ha : EvD m ta δ (di K i)) (hb : EvD m tb δ (di K j)) (hc : EvD m tc δ (di K k)) :
    EvD m (tChain (rI0 fun i j => .bl (f i j)) (rI0 fun i j => .bl (g i j)) ta tb tc) δ (db K (f i j && g j k)) := fun σ G H s c Q q =>
  ha σ G H s c _ fun x G1 H1 t1 p1 => hb σ G1 H1 (s.mono t1.gg) (t1.cn c) _ fun y G2 H2 t2 p2 => by
    cases p1; cases p2
    refine ⟨i, j, rfl, rfl, f i j, rfl, ?_⟩
    cases e : f i j with
    | false =>
      rw [if_neg Bool.false_ne_true]
      exact q _ G2 H2 (t1.trans t2) (by show Dp K _ _ (.bool (f i j && g j k)); rw [e, Bool.false_and]; exact .bl _)
    | true =>
      rw [if_pos rfl]
      refine hc σ G2 H2 ((s.mono t1.gg).mono t2.gg) (t2.cn (t1.cn c)) _ fun z G3 H3 t3 p3 => ?_
      cases p3
      exact ⟨j, k, rfl, rfl, q _ G3 H3 ((t1.trans t2).trans t3) (by show Dp K _ _ (.bool (f i j && g j k)); rw [e, Bool.true_and]; exact .bl _)⟩
theorem eb_test {b : Bool} (h : EvD m te δ (db K b)) : EvB m (tTest te) δ b := fun σ G H s c Q q => h σ G H s c _ fun v G1 H1 t p => by
  cases p
  exact ⟨b, rfl, q G1 H1 t⟩
theorem eb_tB {b : Bool} (h : EvD m te δ (db K b)) : EvB m (tB te) δ b := fun σ G H s c Q q => h σ G H s c _ fun v G1 H1 t p => by
  cases p
  exact ⟨b, rfl, q G1 H1 t⟩
theorem eb_not {b : Bool} (h : EvB m t δ b) : EvB m (tNot t) δ (!b) := fun σ G H s c Q q => h σ G H s c _ fun G1 H1 t1 => q G1 H1 t1
theorem eb_and {a b : Bool} (h1 : EvB m t δ a) (h2 : a = true → EvB m u δ b) : EvB m (tAnd t u) δ (a && b) := fun σ G H s c Q q => h1 σ G H s c _ fun G1 H1 t1 => by
  cases a with
  | true => exact h2 rfl σ G1 H1 (s.mono t1.gg) (t1.cn c) Q fun G2 H2 t2 => q G2 H2 (t1.trans t2)
  | false => exact q G1 H1 t1
theorem eb_or {a b : Bool} (h1 : EvB m t δ a) (h2 : a = false → EvB m u δ b) : EvB m (tOr t u) δ (a || b) := fun σ G H s c Q q => h1 σ G H s c _ fun G1 H1 t1 => by
  cases a with
  | true => exact q G1 H1 t1
  | false => exact h2 rfl σ G1 H1 (s.mono t1.gg) (t1.cn c) Q fun G2 H2 t2 => q G2 H2 (t1.trans t2)
theorem eb_yes : EvB m tYes δ true := fun σ G H s c Q q => q G H (Go.refl c)
theorem ev_andV {a b : Bool} (h1 : EvD m ta δ (db K a)) (h2 : a = true → EvD m tb δ (db K b)) : EvD m (tAndV ta tb) δ (db K (a && b)) := fun σ G H s c Q q => h1 σ G H s c _ fun v G1 H1 t1 p => by
  cases p
  refine ⟨a, rfl, ?_⟩
  cases a with
  | true => exact h2 rfl σ G1 H1 (s.mono t1.gg) (t1.cn c) Q fun v G2 H2 t2 p2 => q v G2 H2 (t1.trans t2) p2
  | false => exact q _ G1 H1 t1 (.bl _)
theorem ev_orV {a b : Bool} (h1 : EvD m ta δ (db K a)) (h2 : a = false → EvD m tb δ (db K b)) : EvD m (tOrV ta tb) δ (db K (a || b)) := fun σ G H s c Q q => h1 σ G H s c _ fun v G1 H1 t1 p => by
  cases p
  refine ⟨a, rfl, ?_⟩
  cases a with
  | true => exact q _ G1 H1 t1 (.bl _)
  | false => exact h2 rfl σ G1 H1 (s.mono t1.gg) (t1.cn c) Q fun v G2 H2 t2 p2 => q v G2 H2 (t1.trans t2) p2
theorem ev_notV {a : Bool} (h1 : EvD m ta δ (db K a)) : EvD m (tNotV ta) δ (db K (!a)) := fun σ G H s c Q q => h1 σ G H s c _ fun v G1 H1 t1 p => by
  cases p
  exact ⟨a, rfl, q _ G1 H1 t1 (.bl _)⟩
theorem ev_if {b : Bool} (h : EvB m t δ b) (h1 : b = true → EvD m ta δ P) (h2 : b = false → EvD m tb δ P) : EvD m (tIf t ta tb) δ P := fun σ G H s c Q q => h σ G H s c _ fun G1 H1 t1 => by
  cases b with
  | true => exact h1 rfl σ G1 H1 (s.mono t1.gg) (t1.cn c) Q fun v G2 H2 t2 p2 => q v G2 H2 (t1.trans t2) p2
  | false => exact h2 rfl σ G1 H1 (s.mono t1.gg) (t1.cn c) Q fun v G2 H2 t2 p2 => q v G2 H2 (t1.trans t2) p2
theorem ea_nil : EvA m tNil δ [] := fun σ G H s c Q q => q [] G H (Go.refl c) .nil
theorem ea_cons {tr : TA} {Ps : List Pd} (h : EvD m te δ P) (hr : EvA m tr δ Ps) : EvA m (tCons te tr) δ (P :: Ps) := fun σ G H s c Q q =>
  h σ G H s c _ fun v G1 H1 t1 p1 => hr σ G1 H1 (s.mono t1.gg) (t1.cn c) _ fun vs G2 H2 t2 p2 => q (v :: vs) G2 H2 (t1.trans t2) (.cons (P.mono _ _ _ p1 t2.gg) p2)
/-- a call by values -/
def CbD (m : Md) (r : List V → Hp → VK → Prop) (Ps : List Pd) (S : Pd) : Prop := ∀ vs G H, Cn m G H → All2 G vs Ps → ∀ Q : VK, (∀ v G' H', Go m G H G' H' → S.φ v G' → Q v H') → r vs H Q
theorem ev_cb {r : List V → Hp → VK → Prop} {ta : TA} {Ps : List Pd} (h : EvA m ta δ Ps) (hr : CbD m r Ps S) : EvD m (tCB r ta) δ S := fun σ G H s c Q q =>
  h σ G H s c _ fun vs G1 H1 t1 p1 => hr vs G1 H1 (t1.cn c) p1 Q fun v G2 H2 t2 p2 => q v G2 H2 (t1.trans t2) p2
/-- an error in the air: its own dict at d, new, holds v as what; P tells of v -/
structure Fl (m : Md) (d : Addr) (v : V) (P : Pd) (G H : Hp) : Prop where
  g : G d = none
  nd : ¬ m.dep d
  at_ : H d = some (.xd [(("what" : Str), v)])
  p : P.φ v G
/-- how a call ends -/
inductive Oc where
  | ret (S : Pd)
  | exc (C : Addr) (P : Pd)
def Oc.to (m : Md) (G H : Hp) (Q : VK) (E : XK) : Oc → Prop
  | .ret S => ∀ v G' H', Go m G H G' H' → S.φ v G' → Q v H'
  | .exc C P => ∀ d v G' H', Go m G H G' H' → Fl m d v P G' H' → E (.ref C) (some d) H'
/-- a def's promise by descriptions: F tells, in every mode, which arguments give which end -/
def spF (F : Md → List Pd → Oc → Prop) : Sp := fun vs H Q E => ∃ (m : Md) (G : Hp) (Ps : List Pd) (O : Oc), F m Ps O ∧ Cn m G H ∧ All2 G vs Ps ∧ O.to m G H Q E
theorem ev_call {F : Md → List Pd → Oc → Prop} {E : XK} {ta : TA} {Ps : List Pd} (h : EvA m ta δ Ps) (hf : F m Ps (.ret S)) : EvD m (tCall (spF F) [] E ta) δ S := fun σ G H s c Q q =>
  h σ G H s c _ fun vs G1 H1 t1 p1 => by
    rw [List.append_nil]
    exact ⟨m, G1, Ps, .ret S, hf, t1.cn c, p1, fun v G2 H2 t2 p2 => q v G2 H2 (t1.trans t2) p2⟩
def dds (ds : List PyData) : List Pd := ds.map (dd K)
theorem all2_dp {G : Hp} : ∀ {vs : List V} {ds : List PyData}, All2 G vs (ds.map (dd K)) → DpAll K G vs ds
  | _, [], .nil => .nil
  | _, _ :: _, .cons h t => .cons h (all2_dp t)
theorem dp_all2 {G : Hp} : ∀ {vs : List V} {ds : List PyData}, DpAll K G vs ds → All2 G vs (ds.map (dd K))
  | _, [], .nil => .nil
  | _, _ :: _, .cons h t => .cons h (dp_all2 t)
theorem ev_tup {ta : TA} {ds : List PyData} (h : EvA m ta δ (ds.map (dd K))) (hl : ds.length ≤ 100000) : EvD m (tTup ta) δ (dd K (.tuple ds)) := fun σ G H s c Q q =>
  h σ G H s c _ fun vs G1 H1 t1 p1 => by
    have d1 := all2_dp p1
    refine ⟨Nat.le_trans (by rw [d1.length]; exact hl) (by decide), fun p hp => ?_⟩
    have t2 := Go.new (o := .tup vs) (t1.cn c) hp
    exact q _ _ _ (t1.trans t2) (.tup (.inl (.inl upd_same)) (DpAll.mono t2.gg d1))
theorem ev_lst {ta : TA} {ds : List PyData} (h : EvA m ta δ (ds.map (dd K))) (hl : ds.length ≤ 100000) : EvD m (tLst ta) δ (dd K (.list ds)) := fun σ G H s c Q q =>
  h σ G H s c _ fun vs G1 H1 t1 p1 => by
    have d1 := all2_dp p1
    refine ⟨Nat.le_trans (by rw [d1.length]; exact hl) (by decide), fun p hp => ?_⟩
    have t2 := Go.new (o := .lst vs) (t1.cn c) hp
    exact q _ _ _ (t1.trans t2) (.lst (.inl (.inl upd_same)) (DpAll.mono t2.gg d1))
theorem dpa_nil_iff {G : Hp} {vs : List V} {ds : List PyData} (h : DpAll K G vs ds) : vs = [] ↔ ds = [] := by
  have := h.length
  cases vs <;> cases ds <;> simp_all
theorem ev_catT {xs ys : List PyData} (ha : EvD m ta δ (dd K (.tuple xs))) (hb : EvD m tb δ (dd K (.tuple ys))) (hl : xs.length + ys.length ≤ 100000) :
    EvD m (tOp (rCatA K) ta tb) δ (dd K (.tuple (xs ++ ys))) := ev_op ha hb fun x y G H c px py Q q => by
  cases px with
  | @tup a vs _ h1 d1 =>
    cases py with
    | @tup b ws _ h2 d2 =>
      refine ⟨a, b, vs, ws, rfl, rfl, SqT.mono h1 c.gh, SqT.mono h2 c.gh, Nat.le_trans (by rw [d1.length, d2.length]; exact hl) (by decide), fun e => ?_, fun e e2 => ?_, fun e e2 p hp => ?_⟩
      · subst e
        cases d1
        exact q _ G H (Go.refl c) (.tup h2 d2)
      · subst e2
        cases d2
        exact q _ G H (Go.refl c) (by rw [List.append_nil]; exact .tup h1 d1)
      · have t2 := Go.new (o := .tup (vs ++ ws)) c hp
        exact q _ _ _ t2 (.tup (.inl (.inl upd_same)) (DpAll.mono t2.gg (d1.append d2)))
/-- a list's cut -/
def ndCut {α : Type} (xs : List α) (lo hi : Option Int) : List α := (xs.drop (HT.sIx xs.length 0 lo)).take (HT.sIx xs.length xs.length hi - HT.sIx xs.length 0 lo)
theorem dpa_cut {G : Hp} {vs : List V} {ds : List PyData} {lo hi : Option Int} (h : DpAll K G vs ds) : DpAll K G (cutV vs lo hi) (ndCut ds lo hi) := by
  unfold cutV ndCut
  rw [h.length]
  exact (h.drop _).take _
def EvO (m : Md) (to : TO) (δ : List (Option Pd)) (o : Option Int) : Prop :=
  ∀ (σ : L2.St) (G H : Hp), Sl G σ δ → Cn m G H → ∀ Q : Option Int → Hp → Prop, (∀ G' H', Go m G H G' H' → Q o H') → to σ H Q
theorem eo_none : EvO m tNoPart δ none := fun σ G H s c Q q => q G H (Go.refl c)
theorem eo_some {i : Int} (h : EvD m te δ (di K i)) : EvO m (tPart te) δ (some i) := fun σ G H s c Q q => h σ G H s c _ fun v G1 H1 t p => by
  cases p
  exact ⟨i, rfl, q G1 H1 t⟩
theorem ev_slT {tl th : TO} {xs : List PyData} {lo hi : Option Int} (h : EvD m te δ (dd K (.tuple xs))) (h1 : EvO m tl δ lo) (h2 : EvO m th δ hi) : EvD m (tSl (rSlA K) te tl th) δ (dd K (.tuple (ndCut xs lo hi))) := fun σ G H s c Q q =>
  h σ G H s c _ fun x G1 H1 t1 p1 => h1 σ G1 H1 (s.mono t1.gg) (t1.cn c) _ fun G2 H2 t2 => h2 σ G2 H2 ((s.mono t1.gg).mono t2.gg) (t2.cn (t1.cn c)) _ fun G3 H3 t3 => by
    have p3 := Dp.mono t3.gg (Dp.mono t2.gg p1)
    have c3 := t3.cn (t2.cn (t1.cn c))
    have t := (t1.trans t2).trans t3
    cases p3 with
    | @tup a vs _ e d =>
      refine ⟨a, vs, rfl, SqT.mono e c3.gh, fun w => ?_, fun w p hp => ?_⟩
      · refine q _ G3 H3 t (.tup e ?_)
        have z := dpa_cut (lo := lo) (hi := hi) d
        have ev : cutV vs lo hi = vs := by
          unfold cutV
          rw [w.1, w.2]
          simp
        rw [ev] at z
        exact z
      · have t4 := Go.new (o := .tup (cutV vs lo hi)) c3 hp
        exact q _ _ _ (t.trans t4) (.tup (.inl (.inl upd_same)) (DpAll.mono t4.gg (dpa_cut d)))
theorem ev_slL {tl th : TO} {xs : List PyData} {lo hi : Option Int} (h : EvD m te δ (dd K (.list xs))) (h1 : EvO m tl δ lo) (h2 : EvO m th δ hi) : EvD m (tSl (rSlL K) te tl th) δ (dd K (.list (ndCut xs lo hi))) := fun σ G H s c Q q =>
  h σ G H s c _ fun x G1 H1 t1 p1 => h1 σ G1 H1 (s.mono t1.gg) (t1.cn c) _ fun G2 H2 t2 => h2 σ G2 H2 ((s.mono t1.gg).mono t2.gg) (t2.cn (t1.cn c)) _ fun G3 H3 t3 => by
    have p3 := Dp.mono t3.gg (Dp.mono t2.gg p1)
    have c3 := t3.cn (t2.cn (t1.cn c))
    have t := (t1.trans t2).trans t3
    cases p3 with
    | @lst a vs _ e d =>
      refine ⟨a, vs, rfl, SqL.mono e c3.gh, fun p hp => ?_⟩
      have t4 := Go.new (o := .lst (cutV vs lo hi)) c3 hp
      exact q _ _ _ (t.trans t4) (.lst (.inl (.inl upd_same)) (DpAll.mono t4.gg (dpa_cut d)))
theorem ev_revL {xs : List PyData} (h : EvD m te δ (dd K (.list xs))) : EvD m (tRevL K te) δ (dd K (.list xs.reverse)) := fun σ G H s c Q q =>
  h σ G H s c _ fun x G1 H1 t1 p1 => by
    cases p1 with
    | @lst a vs _ e d =>
      refine ⟨a, vs, rfl, SqL.mono e (t1.cn c).gh, fun p hp => ?_⟩
      have t4 := Go.new (o := .lst vs.reverse) (t1.cn c) hp
      have dr : ∀ {vs : List V} {ds : List PyData}, DpAll K G1 vs ds → DpAll K G1 vs.reverse ds.reverse := by
        intro vs ds h
        induction vs generalizing ds with
        | nil => cases h; exact .nil
        | cons v vs ih =>
          cases h with
          | cons h1 h2 => rw [List.reverse_cons, List.reverse_cons]; exact (ih h2).append (.cons h1 .nil)
      exact q _ _ _ (t1.trans t4) (.lst (.inl (.inl upd_same)) (DpAll.mono t4.gg (dr d)))
theorem dpa_atI {G : Hp} {vs : List V} {ds : List PyData} {i : Int} {d : PyData} (h : DpAll K G vs ds) (e : L2.atI ds i = some d) : ∃ v, L2.atI vs i = some v ∧ Dp K G v d := by
  unfold L2.atI at e ⊢
  rw [h.length]
  cases q : ixN ds.length i with
  | none => rw [q] at e; cases e
  | some j =>
    rw [q] at e
    exact h.get (i := j) e
theorem ev_ixL {xs : List PyData} {i : Int} {d : PyData} (ha : EvD m ta δ (dd K (.list xs))) (hb : EvD m tb δ (di K i)) (h : L2.atI xs i = some d) : EvD m (tOp (rIxL K) ta tb) δ (dd K d) := ev_op ha hb fun x y G H c px py Q q => by
  cases py
  cases px with
  | @lst a vs _ e1 d1 =>
    obtain ⟨v, e, p⟩ := dpa_atI d1 h
    exact ⟨a, vs, i, v, rfl, rfl, SqL.mono e1 c.gh, e, q _ G H (Go.refl c) p⟩
theorem ev_ixT {xs : List PyData} {i : Int} {d : PyData} (ha : EvD m ta δ (dd K (.tuple xs))) (hb : EvD m tb δ (di K i)) (h : L2.atI xs i = some d) : EvD m (tOp (rIxT K) ta tb) δ (dd K d) := ev_op ha hb fun x y G H c px py Q q => by
  cases py
  cases px with
  | @tup a vs _ e1 d1 =>
    obtain ⟨v, e, p⟩ := dpa_atI d1 h
    exact ⟨a, vs, i, v, rfl, rfl, SqT.mono e1 c.gh, e, q _ G H (Go.refl c) p⟩
theorem ev_eqD {d e : PyData} (ha : EvD m ta δ (dd K d)) (hb : EvD m tb δ (dd K e)) (h1 : SeqAt.shaped d = true) (h2 : SeqAt.shaped e = true) : EvD m (tOp (rEqD K) ta tb) δ (db K (PyData.eqv d e)) := ev_op ha hb fun x y G H c px py Q q =>
  ⟨d, e, Dp.mono c.gh px, Dp.mono c.gh py, h1, h2, q _ G H (Go.refl c) (.bl _)⟩
theorem ev_neD {d e : PyData} (ha : EvD m ta δ (dd K d)) (hb : EvD m tb δ (dd K e)) (h1 : SeqAt.shaped d = true) (h2 : SeqAt.shaped e = true) : EvD m (tOp (rNeD K) ta tb) δ (db K (!PyData.eqv d e)) := ev_op ha hb fun x y G H c px py Q q =>
  ⟨d, e, Dp.mono c.gh px, Dp.mono c.gh py, h1, h2, q _ G H (Go.refl c) (.bl _)⟩
/-- k in a list, a tuple of ints -/
theorem inV_ints (k : Int) : ∀ (ns : List Int), inV (.int k) (ns.map V.int) = decide (k ∈ ns) := by
  intro ns
  unfold inV
  induction ns with
  | nil => simp
  | cons n ns ih =>
    rw [List.map_cons, List.any_cons, ih]
    have e : eqV (.int n) (.int k) = decide (n = k) := by
      first | rfl | (unfold eqV; simp)
    rw [e]
    by_cases h : n = k
    · subst h; simp
    · have h' : ¬ k = n := fun z => h z.symm
      simp [h, h']
theorem flat_ints : ∀ (ns : List Int), (ns.map V.int).all flatV = true
  | [] => rfl
  | _ :: ns => by rw [List.map_cons, List.all_cons, flat_ints ns]; rfl
theorem ev_inL {k : Int} {ns : List Int} (ha : EvD m ta δ (di K k)) (hb : EvD m tb δ (dd K (.list (ns.map PyData.int)))) : EvD m (tOp (rIn K false) ta tb) δ (db K (decide (k ∈ ns))) := ev_op ha hb fun x y G H c px py Q q => by
  cases px
  cases py with
  | @lst a vs _ e d =>
    cases d.ints
    exact ⟨a, _, rfl, .inl (SqL.mono e c.gh), rfl, flat_ints ns, q _ G H (Go.refl c) (by rw [if_neg Bool.false_ne_true, inV_ints]; exact .bl _)⟩
theorem ev_niL {k : Int} {ns : List Int} (ha : EvD m ta δ (di K k)) (hb : EvD m tb δ (dd K (.list (ns.map PyData.int)))) : EvD m (tOp (rIn K true) ta tb) δ (db K (!decide (k ∈ ns))) := ev_op ha hb fun x y G H c px py Q q => by
  cases px
  cases py with
  | @lst a vs _ e d =>
    cases d.ints
    exact ⟨a, _, rfl, .inl (SqL.mono e c.gh), rfl, flat_ints ns, q _ G H (Go.refl c) (by rw [if_pos rfl, inV_ints]; exact .bl _)⟩
theorem ev_inT {k : Int} {ns : List Int} (ha : EvD m ta δ (di K k)) (hb : EvD m tb δ (dd K (.tuple (ns.map PyData.int)))) : EvD m (tOp (rIn K false) ta tb) δ (db K (decide (k ∈ ns))) := ev_op ha hb fun x y G H c px py Q q => by
  cases px
  cases py with
  | @tup a vs _ e d =>
    cases d.ints
    exact ⟨a, _, rfl, .inr (SqT.mono e c.gh), rfl, flat_ints ns, q _ G H (Go.refl c) (by rw [if_neg Bool.false_ne_true, inV_ints]; exact .bl _)⟩
theorem ev_niT {k : Int} {ns : List Int} (ha : EvD m ta δ (di K k)) (hb : EvD m tb δ (dd K (.tuple (ns.map PyData.int)))) : EvD m (tOp (rIn K true) ta tb) δ (db K (!decide (k ∈ ns))) := ev_op ha hb fun x y G H c px py Q q => by
  cases px
  cases py with
  | @tup a vs _ e d =>
    cases d.ints
    exact ⟨a, _, rfl, .inr (SqT.mono e c.gh), rfl, flat_ints ns, q _ G H (Go.refl c) (by rw [if_pos rfl, inV_ints]; exact .bl _)⟩
def seqD : PyData → Option (List PyData)
  | .list xs => some xs
  | .tuple xs => some xs
  | _ => none
theorem all2_one {G : Hp} {vs : List V} (h : All2 G vs [P]) : ∃ v, vs = [v] ∧ P.φ v G := by
  cases h with
  | cons h t => cases t; exact ⟨_, rfl, h⟩
theorem all2_two {G : Hp} {vs : List V} (h : All2 G vs [P, R]) : ∃ v w, vs = [v, w] ∧ P.φ v G ∧ R.φ w G := by
  cases h with
  | cons h t =>
    obtain ⟨w, e, q⟩ := all2_one t
    subst e
    exact ⟨_, w, rfl, h, q⟩
theorem cb_lenL {ds : List PyData} : CbD m (fun xs H Q => ∃ p ys, xs = [V.ref p] ∧ (SqL K H p ys ∨ SqT K H p ys) ∧ Q (.int ys.length) H) [dd K (.list ds)] (di K ds.length) := fun vs G H c a Q q => by
  obtain ⟨v, rfl, p⟩ := all2_one a
  cases p with
  | @lst b xs _ e d => exact ⟨b, xs, rfl, .inl (SqL.mono e c.gh), q _ G H (Go.refl c) (by rw [d.length]; exact .int _)⟩
theorem cb_lenT {ds : List PyData} : CbD m (fun xs H Q => ∃ p ys, xs = [V.ref p] ∧ (SqL K H p ys ∨ SqT K H p ys) ∧ Q (.int ys.length) H) [dd K (.tuple ds)] (di K ds.length) := fun vs G H c a Q q => by
  obtain ⟨v, rfl, p⟩ := all2_one a
  cases p with
  | @tup b xs _ e d => exact ⟨b, xs, rfl, .inr (SqT.mono e c.gh), q _ G H (Go.refl c) (by rw [d.length]; exact .int _)⟩
theorem cb_listL {ds : List PyData} : CbD m (fun xs H Q => ∃ p ys, xs = [V.ref p] ∧ (SqL K H p ys ∨ SqT K H p ys) ∧ ∀ l, H l = none → Q (.ref l) (upd H l (.lst ys))) [dd K (.list ds)] (dd K (.list ds)) := fun vs G H c a Q q => by
  obtain ⟨v, rfl, p⟩ := all2_one a
  cases p with
  | @lst b xs _ e d => exact ⟨b, xs, rfl, .inl (SqL.mono e c.gh), fun l hl => q _ _ _ (Go.new c hl) (.lst (.inl (.inl upd_same)) (DpAll.mono (Go.new (o := .lst xs) c hl).gg d))⟩
theorem cb_listT {ds : List PyData} : CbD m (fun xs H Q => ∃ p ys, xs = [V.ref p] ∧ (SqL K H p ys ∨ SqT K H p ys) ∧ ∀ l, H l = none → Q (.ref l) (upd H l (.lst ys))) [dd K (.tuple ds)] (dd K (.list ds)) := fun vs G H c a Q q => by
  obtain ⟨v, rfl, p⟩ := all2_one a
  cases p with
  | @tup b xs _ e d => exact ⟨b, xs, rfl, .inr (SqT.mono e c.gh), fun l hl => q _ _ _ (Go.new c hl) (.lst (.inl (.inl upd_same)) (DpAll.mono (Go.new (o := .lst xs) c hl).gg d))⟩
theorem cb_tupleL {ds : List PyData} : CbD m (fun xs H Q => ∃ p ys, xs = [V.ref p] ∧ ((SqL K H p ys ∧ ∀ l, H l = none → Q (.ref l) (upd H l (.tup ys))) ∨ (SqT K H p ys ∧ Q (.ref p) H))) [dd K (.list ds)] (dd K (.tuple ds)) := fun vs G H c a Q q => by
  obtain ⟨v, rfl, p⟩ := all2_one a
  cases p with
  | @lst b xs _ e d => exact ⟨b, xs, rfl, .inl ⟨SqL.mono e c.gh, fun l hl => q _ _ _ (Go.new c hl) (.tup (.inl (.inl upd_same)) (DpAll.mono (Go.new (o := .tup xs) c hl).gg d))⟩⟩
theorem cb_int {i : Int} : CbD m (fun xs H Q => (∃ i, xs = [V.int i] ∧ Q (.int i) H) ∨ ∃ k, xs = [V.bl k] ∧ Q (.int (if k then 1 else 0)) H) [di K i] (di K i) := fun vs G H c a Q q => by
  obtain ⟨v, rfl, p⟩ := all2_one a
  cases p
  exact .inl ⟨i, rfl, q _ G H (Go.refl c) (.int _)⟩
theorem cb_min2 {i j : Int} : CbD m (fun xs H Q => ∃ i j, xs = [V.int i, V.int j] ∧ Q (.int (if j < i then j else i)) H) [di K i, di K j] (di K (if j < i then j else i)) := fun vs G H c a Q q => by
  obtain ⟨v, w, rfl, p, r⟩ := all2_two a
  cases p; cases r
  exact ⟨i, j, rfl, q _ G H (Go.refl c) (.int _)⟩
def tyD : PyData → String
  | .none => "NoneType"
  | .bool _ => "bool"
  | .int _ => "int"
  | .str _ => "str"
  | .list _ => "list"
  | .tuple _ => "tuple"
  | .dict _ => "dict"
end
end Nd

namespace Nd
open PySem L2
structure Ou where
  nx : List (Option Pd) → Prop := fun _ => False
  rt : Pd → Prop := fun _ => False
  bk : List (Option Pd) → Prop := fun _ => False
  ct : List (Option Pd) → Prop := fun _ => False
  ex : Addr → Pd → Prop := fun _ _ => False
structure Kx (m : Md) (G H : Hp) (O : Ou) (E : XK) (D : Ends) : Prop where
  nx : ∀ δ' σ' G' H', O.nx δ' → Go m G H G' H' → Sl G' σ' δ' → D.nx σ' H'
  rt : ∀ S v G' H', O.rt S → Go m G H G' H' → S.φ v G' → D.rt v H'
  bk : ∀ δ' σ' G' H', O.bk δ' → Go m G H G' H' → Sl G' σ' δ' → D.bk σ' H'
  ct : ∀ δ' σ' G' H', O.ct δ' → Go m G H G' H' → Sl G' σ' δ' → D.ct σ' H'
  ex : ∀ C P d v G' H', O.ex C P → Go m G H G' H' → Fl m d v P G' H' → E (.ref C) (some d) H'
theorem Kx.go {m : Md} {G H G1 H1 : Hp} {O : Ou} {E : XK} {D : Ends} (k : Kx m G H O E D) (g : Go m G H G1 H1) : Kx m G1 H1 O E D :=
  ⟨fun a b e f x y z => k.nx a b e f x (g.trans y) z, fun a b e f x y z => k.rt a b e f x (g.trans y) z, fun a b e f x y z => k.bk a b e f x (g.trans y) z, fun a b e f x y z => k.ct a b e f x (g.trans y) z,
    fun a b d v e f x y z => k.ex a b d v e f x (g.trans y) z⟩
def Bl (m : Md) (E : XK) (ts : TS) (δ : List (Option Pd)) (O : Ou) : Prop :=
  ∀ (σ : L2.St) (G H : Hp) (D : Ends), Sl G σ δ → Cn m G H → Kx m G H O E D → ts D σ H
section
variable {K : PySem.W.Frag} {m : Md} {E : XK} {δ : List (Option Pd)} {ta tb tc te : TE} {t u : TT} {P R S T : Pd} {t1 t2 : TS} {O : Ou}
theorem bl_seq (M : List (Option Pd) → Prop) (h1 : Bl m E t1 δ { O with nx := M }) (h2 : ∀ δ', M δ' → Bl m E t2 δ' O) : Bl m E (tSeq t1 t2) δ O := fun σ G H D s c k =>
  h1 σ G H { D with nx := t2 D } s c ⟨fun δ' σ' G' H' hm g s' => h2 δ' hm σ' G' H' D s' (g.cn c) (k.go g), k.rt, k.bk, k.ct, k.ex⟩
/-- x = e; rest -/
theorem bl_set {i : Nat} (h : EvD m te δ P) (k : Bl m E t2 (δ.set i (some P)) O) : Bl m E (tSeq (tAsg te (gName i)) t2) δ O := fun σ G H D s c kx =>
  h σ G H s c _ fun v G1 H1 g p => k _ G1 H1 D ((s.mono g.gg).set p) (g.cn c) (kx.go g)
theorem bl_set1 {i : Nat} (h : EvD m te δ P) (k : O.nx (δ.set i (some P))) : Bl m E (tAsg te (gName i)) δ O := fun σ G H D s c kx =>
  h σ G H s c _ fun v G1 H1 g p => kx.nx _ _ G1 H1 k g ((s.mono g.gg).set p)
theorem bl_ret (h : EvD m te δ P) (k : O.rt P) : Bl m E (tRet te) δ O := fun σ G H D s c kx => h σ G H s c _ fun v G1 H1 g p => kx.rt P v G1 H1 k g p
theorem bl_next (k : O.nx δ) : Bl m E tNext δ O := fun σ G H D s c kx => kx.nx δ σ G H k (Go.refl c) s
theorem bl_brk (k : O.bk δ) : Bl m E tBreak δ O := fun σ G H D s c kx => kx.bk δ σ G H k (Go.refl c) s
theorem bl_cont (k : O.ct δ) : Bl m E tCont δ O := fun σ G H D s c kx => kx.ct δ σ G H k (Go.refl c) s
theorem bl_drop (h : EvD m te δ P) (k : O.nx δ) : Bl m E (tDrop te) δ O := fun σ G H D s c kx => h σ G H s c _ fun v G1 H1 g p => kx.nx δ σ G1 H1 k g (s.mono g.gg)
theorem bl_dropS (h : EvD m te δ P) (k : Bl m E t2 δ O) : Bl m E (tSeq (tDrop te) t2) δ O := bl_seq (fun d => d = δ) (bl_drop h rfl) fun d e => by subst e; exact k
theorem bl_if {b : Bool} (h : EvB m t δ b) (h1 : b = true → Bl m E t1 δ O) (h2 : b = false → Bl m E t2 δ O) : Bl m E (tIfS t t1 t2) δ O := fun σ G H D s c kx =>
  h σ G H s c _ fun G1 H1 g => by
    cases b with
    | true => exact h1 rfl _ G1 H1 D (s.mono g.gg) (g.cn c) (kx.go g)
    | false => exact h2 rfl _ G1 H1 D (s.mono g.gg) (g.cn c) (kx.go g)
/-- if t: .. else: ..; rest -/
theorem bl_ifR {b : Bool} {t3 : TS} (h : EvB m t δ b) (h1 : b = true → Bl m E (tSeq t1 t3) δ O) (h2 : b = false → Bl m E (tSeq t2 t3) δ O) : Bl m E (tSeq (tIfS t t1 t2) t3) δ O := fun σ G H D s c kx =>
  h σ G H s c _ fun G1 H1 g => by
    cases b with
    | true => exact h1 rfl _ G1 H1 D (s.mono g.gg) (g.cn c) (kx.go g)
    | false => exact h2 rfl _ G1 H1 D (s.mono g.gg) (g.cn c) (kx.go g)
theorem bl_nextS (k : Bl m E t2 δ O) : Bl m E (tSeq tNext t2) δ O := fun σ G H D s c kx => k σ G H D s c kx
theorem bl_retS (h : EvD m te δ P) (k : O.rt P) : Bl m E (tSeq (tRet te) t2) δ O := fun σ G H D s c kx => h σ G H s c _ fun v G1 H1 g p => kx.rt P v G1 H1 k g p
theorem bl_assoc {t3 : TS} (k : Bl m E (tSeq t1 (tSeq t2 t3)) δ O) : Bl m E (tSeq (tSeq t1 t2) t3) δ O := k
theorem Bl.weak {O' : Ou} (h : Bl m E t1 δ O) (a : ∀ d, O.nx d → O'.nx d) (b : ∀ d, O.rt d → O'.rt d) (c' : ∀ d, O.bk d → O'.bk d) (e' : ∀ d, O.ct d → O'.ct d) (f' : ∀ C P, O.ex C P → O'.ex C P) : Bl m E t1 δ O' := fun σ G H D s c k =>
  h σ G H D s c ⟨fun d w x y z => k.nx d w x y (a d z), fun d w x y z => k.rt d w x y (b d z), fun d w x y z => k.bk d w x y (c' d z), fun d w x y z => k.ct d w x y (e' d z), fun d w v x y z u => k.ex d w v x y z (f' d w u)⟩
/-- what is walked: n turns, the i-th gives a thing described by Y i -/
def WkD (m : Md) (wi : TI) (δ : List (Option Pd)) (n : Nat) (Y : Nat → Pd) : Prop :=
  ∀ (σ : L2.St) (G H : Hp), Sl G σ δ → Cn m G H → ∀ Q : It → Hp → Prop,
    (∀ J G1 H1, Go m G H G1 H1 → (∃ Gd : Hp → Prop, ∃ Yl : Nat → Hp → V → Hp → Prop, L2.Walk J n Gd Yl ∧ (∀ H', Same G1 H' → Gd H') ∧
      (∀ (m' : Md) i H' x H'' G', i < n → Same G1 G' → Cn m' G' H' → Yl i H' x H'' → ∃ G'', Go m' G' H' G'' H'' ∧ (Y i).φ x G'')) → Q J H1) → wi σ H Q
theorem wk_list {ds : List PyData} (h : EvD m te δ (dd K (.list ds))) : WkD m (iList K te) δ ds.length (fun i => dd K (ds.getD i .none)) := fun σ G H s c Q q =>
  h σ G H s c _ fun v G1 H1 g p => by
    cases p with
    | @lst a vs _ e d =>
      refine ⟨a, rfl, ⟨vs, SqL.mono e (g.cn c).gh⟩, q _ G1 H1 g ⟨fun H => SqL K H a vs, YAt vs, ?_, fun H' s' => SqL.mono e s', ?_⟩⟩
      · rw [← d.length]; exact walk_list
      · rintro m' i H' x H'' G' hi s' c' ⟨rfl, hx⟩
        obtain ⟨d', e1, e2⟩ := d.getV hx
        refine ⟨G', Go.refl c', ?_⟩
        show Dp K G' x (ds.getD i .none)
        rw [List.getD_eq_getElem?_getD, e1]
        exact Dp.mono s' e2
theorem wk_tup {ds : List PyData} (h : EvD m te δ (dd K (.tuple ds))) : WkD m (iTup K te) δ ds.length (fun i => dd K (ds.getD i .none)) := fun σ G H s c Q q =>
  h σ G H s c _ fun v G1 H1 g p => by
    cases p with
    | @tup a vs _ e d =>
      refine ⟨a, rfl, ⟨vs, SqT.mono e (g.cn c).gh⟩, q _ G1 H1 g ⟨fun H => SqT K H a vs, YAt vs, ?_, fun H' s' => SqT.mono e s', ?_⟩⟩
      · rw [← d.length]; exact walk_tup
      · rintro m' i H' x H'' G' hi s' c' ⟨rfl, hx⟩
        obtain ⟨d', e1, e2⟩ := d.getV hx
        refine ⟨G', Go.refl c', ?_⟩
        show Dp K G' x (ds.getD i .none)
        rw [List.getD_eq_getElem?_getD, e1]
        exact Dp.mono s' e2
theorem wk_rng1 {ta : TA} {n : Int} (h : EvA m ta δ [di K n]) (h1 : n ≤ 1000000000) (h2 : -1000000000 ≤ n) : WkD m (iRng1 ta) δ n.toNat (fun i => di K (i : Int)) := fun σ G H s c Q q =>
  h σ G H s c _ fun vs G1 H1 g ap => by
    obtain ⟨v, rfl, p⟩ := all2_one ap
    cases p
    refine ⟨n, rfl, by omega, by omega, q _ G1 H1 g ⟨fun _ => True, _, walk_range, fun _ _ => trivial, ?_⟩⟩
    rintro m' i H' x H'' G' hi s' c' ⟨rfl, rfl⟩
    refine ⟨G', Go.refl c', ?_⟩
    show Dp K G' (.int (0 + (i : Int))) (.int (i : Int))
    rw [Int.zero_add]
    exact .int _
theorem wk_rng2 {ta : TA} {lo n : Int} (h : EvA m ta δ [di K lo, di K n]) (h1 : n ≤ 1000000000) (h2 : -1000000000 ≤ n) (h3 : lo ≤ 1000000000) (h4 : -1000000000 ≤ lo) : WkD m (iRng2 ta) δ (n - lo).toNat (fun i => di K (lo + (i : Int))) := fun σ G H s c Q q =>
  h σ G H s c _ fun vs G1 H1 g ap => by
    obtain ⟨v, w, rfl, p, r⟩ := all2_two ap
    cases p; cases r
    refine ⟨lo, n, rfl, ⟨by omega, by omega, by omega, by omega⟩, q _ G1 H1 g ⟨fun _ => True, _, walk_range, fun _ _ => trivial, ?_⟩⟩
    rintro m' i H' x H'' G' hi s' c' ⟨rfl, rfl⟩
    exact ⟨G', Go.refl c', .int _⟩
/-- for x in ..: body; rest. Iv i tells the slots ahead of turn i -/
theorem bl_for {wi : TI} {j n : Nat} {Y : Nat → Pd} {tb : TS} {t3 : TS} (Iv : Nat → List (Option Pd) → Prop) (hw : WkD m wi δ n Y) (h0 : Iv 0 δ)
    (hs : ∀ i d, i < n → Iv i d → Bl m E tb (d.set j (some (Y i))) { nx := Iv (i + 1), ct := Iv (i + 1), rt := O.rt, bk := fun d' => Bl m E t3 d' O, ex := O.ex })
    (hd : ∀ d, Iv n d → Bl m E t3 d O) : Bl m E (tSeq (tFor wi (gName j) tb) t3) δ O := fun σ G H D s c kx =>
  hw σ G H s c _ fun J G1 H1 g ⟨Gd, Yl, W, hG, hY⟩ => by
    have c1 := g.cn c
    refine for_it W (fun i σ' H' => ∃ d G', Go m G1 H1 G' H' ∧ Sl G' σ' d ∧ Iv i d) ⟨δ, G1, Go.refl c1, s.mono g.gg, h0⟩ (fun i σ' H' _ ⟨d, G', g', _⟩ => hG H' (g'.gg.trans g'.gh)) ?_ ?_
    · rintro i x σ' H' H'' hi ⟨d, G', g', s', iv⟩ y
      obtain ⟨G'', g'', px⟩ := hY m i H' x H'' G' hi g'.gg (g'.cn c1) y
      have gg := g'.trans g''
      have kk := kx.go (g.trans gg)
      refine hs i d hi iv _ G'' H'' _ ((s'.mono g''.gg).set px) (gg.cn c1) ⟨?_, kk.rt, ?_, ?_, kk.ex⟩
      · exact fun d' σ2 G2 H2 a b e => ⟨d', G2, gg.trans b, e, a⟩
      · exact fun d' σ2 G2 H2 a b e => a σ2 G2 H2 D e (b.cn (gg.cn c1)) (kk.go b)
      · exact fun d' σ2 G2 H2 a b e => ⟨d', G2, gg.trans b, e, a⟩
    · rintro σ' H' ⟨d, G', g', s', iv⟩
      exact hd d iv σ' G' H' D s' (g'.cn c1) (kx.go (g.trans g'))
end
end Nd

namespace Nd
open PySem L2
def wipeD (δ : List (Option Pd)) : List Nat → List (Option Pd)
  | [] => δ
  | v :: vs => (wipeD δ vs).set v none
theorem wipeD_length (δ : List (Option Pd)) : ∀ vs : List Nat, (wipeD δ vs).length = δ.length
  | [] => rfl
  | v :: vs => by unfold wipeD; rw [List.length_set, wipeD_length δ vs]
theorem Sl.setN {G : Hp} {σ : L2.St} {δ : List (Option Pd)} (h : Sl G σ δ) {i : Nat} : Sl G (σ.set i none) (δ.set i none) := by
  refine ⟨by rw [List.length_set, List.length_set]; exact h.1, fun j R e => ?_⟩
  by_cases hj : i = j
  · subst hj
    by_cases hi : i < δ.length
    · rw [List.getElem?_set_self hi] at e; cases e
    · rw [List.getElem?_eq_none (by rw [List.length_set]; omega)] at e; cases e
  · rw [List.getElem?_set_ne hj] at e
    obtain ⟨w, a, b⟩ := h.2 j R e
    exact ⟨w, by rw [List.getElem?_set_ne hj]; exact a, b⟩
theorem Sl.wipe {G : Hp} {σ : L2.St} {δ : List (Option Pd)} (h : Sl G σ δ) : ∀ vs : List Nat, Sl G (wipe σ vs) (wipeD δ vs)
  | [] => h
  | _ :: vs => (Sl.wipe h vs).setN
theorem wipe_set {σ : L2.St} {j : Nat} {y : Option V} : ∀ {vs : List Nat}, j ∈ vs → ∀ τ : L2.St, wipe ((wipe τ vs).set j y) vs = wipe τ vs := by
  -- wiping is pointwise: compare by places
  have at_wipe : ∀ (vs : List Nat) (τ : L2.St) (i : Nat), (wipe τ vs)[i]? = if i ∈ vs then (if i < τ.length then some none else none) else τ[i]? := by
    intro vs
    induction vs with
    | nil => intro τ i; simp [wipe]
    | cons v vs ih =>
      intro τ i
      unfold wipe
      by_cases h : v = i
      · subst h
        by_cases hl : v < τ.length
        · rw [List.getElem?_set_self (by rw [wipe_length]; exact hl)]; simp [hl]
        · rw [List.getElem?_eq_none (by rw [List.length_set, wipe_length]; omega)]; simp [hl]
      · rw [List.getElem?_set_ne h, ih]
        have : (i ∈ v :: vs) ↔ i ∈ vs := by simp [Ne.symm h]
        simp only [this]
  intro vs hj τ
  apply List.ext_getElem?
  intro i
  rw [at_wipe, at_wipe]
  by_cases hi : i ∈ vs
  · simp [hi, wipe_length]
  · simp only [hi, if_false]
    have hne : j ≠ i := fun e => hi (e ▸ hj)
    rw [List.getElem?_set_ne hne, at_wipe]
    simp [hi]
section
variable {K : PySem.W.Frag} {m : Md} {δ : List (Option Pd)} {ta tb tc te : TE} {t u : TT} {P R S T : Pd}
theorem range_fm {n : Nat} {b : Nat → Bool} {f : Nat → PyData} : (((List.range (n + 1)).filter b).map f) = ((List.range n).filter b).map f ++ (if b n = true then [f n] else []) := by
  rw [List.range_succ, List.filter_append, List.map_append]
  congr 1
  by_cases h : b n = true
  · simp [h]
  · simp [h]
/-- what stands while a comprehension runs -/
structure CpI (m : Md) (K : PySem.W.Frag) (G1 H1 : Hp) (D : Addr) (H' : Hp) (ds : List PyData) : Prop where
  ex : ∃ G' acc, Go m G1 H1 G' H' ∧ G' D = none ∧ H' D = some (.lst acc) ∧ DpAll K G' acc ds
theorem cp_start {G1 H1 : Hp} {D : Addr} (c : Cn m G1 H1) (hD : H1 D = none) : CpI m K G1 H1 D (upd H1 D (.lst [])) [] := by
  have s : Same H1 (upd H1 D (.lst [])) := fun a u e => by rw [upd_ne (ne_of_none e hD)]; exact e
  have gD : G1 D = none := by
    cases q : G1 D with
    | none => rfl
    | some o => rw [c.gh D o q] at hD; cases hD
  exact ⟨G1, [], Go.same c s, gD, upd_same, .nil⟩
/-- one more is put in -/
theorem cp_more {G1 H1 G' H' : Hp} {D : Addr} {acc : List V} {ds : List PyData} {v : V} {d : PyData} (c : Cn m G1 H1) (hD : H1 D = none) (g : Go m G1 H1 G' H') (gD : G' D = none) (hd : DpAll K G' acc ds) (p : Dp K G' v d) :
    CpI m K G1 H1 D (upd H' D (.lst (acc ++ [v]))) (ds ++ [d]) := by
  refine ⟨G', acc ++ [v], ⟨g.gg, fun a u e => ?_, g.fr, fun a u e h => ?_, Md.upd g.iv (Md.fresh c.iv hD)⟩, gD, upd_same, hd.append (.cons p .nil)⟩
  · rw [upd_ne (ne_of_none e gD)]; exact g.gh a u e
  · rw [upd_ne (ne_of_none h hD)]; exact g.r a u e h
/-- the list is made, from now on it is known -/
theorem cp_done {G1 H1 H' : Hp} {D : Addr} {ds : List PyData} (c : Cn m G1 H1) (hD : H1 D = none) (h : CpI m K G1 H1 D H' ds) : ∃ G', Go m G1 H1 G' H' ∧ Dp K G' (.ref D) (.list ds) := by
  obtain ⟨G', acc, g, gD, hd, d⟩ := h.ex
  have nD : ∀ a, m.chg a → a ≠ D := fun a e z => Md.fresh c.iv hD (m.sub D (z ▸ e))
  have s : Same G' (upd G' D (.lst acc)) := fun a u e => by rw [upd_ne (ne_of_none e gD)]; exact e
  refine ⟨upd G' D (.lst acc), ⟨g.gg.trans s, fun a u e => ?_, fun a u e n => ?_, g.r, g.iv⟩, .lst (.inl (.inl upd_same)) (DpAll.mono s d)⟩
  · by_cases q : a = D
    · subst q; rw [upd_same] at e; rw [hd]; exact e
    · rw [upd_ne q] at e; exact g.gh a u e
  · by_cases q : a = D
    · subst q; exact hD
    · rw [upd_ne q] at e; exact g.fr a u e n
theorem Cn.hold {G H : Hp} {D : Addr} {o : HO} (c : Cn m G H) (hD : H D = some o) (gD : G D = none) : Cn (m.hold D o) G H := ⟨c.gh, ⟨c.iv, hD⟩, fun a e => e.elim (c.nm a) fun z => by rw [z]; exact gD⟩
theorem Go.out {G H G' H' : Hp} {D : Addr} {o : HO} (g : Go m G H G' H') (gD : G D = none) (hD : H D = some o) : G' D = none := by
  cases q : G' D with
  | none => rfl
  | some u => rw [g.fr D u q gD] at hD; cases hD
/-- a target: what it stores -/
def TgD (g : TG) (Y : Pd) (δ δ' : List (Option Pd)) (vs : List Nat) : Prop :=
  ∀ (x : V) (σ : L2.St) (G H : Hp) (Q : L2.St → Hp → Prop), Sl G (wipe σ vs) δ → Same G H → Y.φ x G → (∀ σ2, Sl G σ2 δ' → wipe σ2 vs = wipe σ vs → Q σ2 H) → g x (wipe σ vs) H Q
theorem tg_name {Y : Pd} {j : Nat} {vs : List Nat} (hj : j ∈ vs) : TgD (gName j) Y δ (δ.set j (some Y)) vs := fun x σ G H Q s _ p q => q _ (s.set p) (wipe_set (σ := σ) hj σ)
theorem wipe_set2 {σ : L2.St} {j k : Nat} {y z : Option V} {vs : List Nat} (hj : j ∈ vs) (hk : k ∈ vs) : wipe (((wipe σ vs).set j y).set k z) vs = wipe σ vs := by
  have h1 := wipe_set (σ := σ) (y := z) hk ((wipe σ vs).set j y)
  have h2 := wipe_set (σ := σ) (y := y) hj σ
  rw [h2] at h1
  -- (wipe τ vs).set k z wiped, with τ := (wipe σ vs).set j y; but the set stands outside of the wiping: compare by places
  have at_wipe : ∀ (vs : List Nat) (τ : L2.St) (i : Nat), (wipe τ vs)[i]? = if i ∈ vs then (if i < τ.length then some none else none) else τ[i]? := by
    intro vs
    induction vs with
    | nil => intro τ i; simp [wipe]
    | cons v vs ih =>
      intro τ i
      unfold wipe
      by_cases h : v = i
      · subst h
        by_cases hl : v < τ.length
        · rw [List.getElem?_set_self (by rw [wipe_length]; exact hl)]; simp [hl]
        · rw [List.getElem?_eq_none (by rw [List.length_set, wipe_length]; omega)]; simp [hl]
      · rw [List.getElem?_set_ne h, ih]
        have : (i ∈ v :: vs) ↔ i ∈ vs := by simp [Ne.symm h]
        simp only [this]
  apply List.ext_getElem?
  intro i
  rw [at_wipe, at_wipe]
  by_cases hi : i ∈ vs
  · simp [hi, wipe_length]
  · simp only [hi, if_false]
    have hne : j ≠ i := fun e => hi (e ▸ hj)
    have hne2 : k ≠ i := fun e => hi (e ▸ hk)
    rw [List.getElem?_set_ne hne2, List.getElem?_set_ne hne, at_wipe]
    simp [hi]
theorem tg_pair {d e : PyData} {j k : Nat} {vs : List Nat} (hj : j ∈ vs) (hk : k ∈ vs) : TgD (gTup K 2 (gCons (gName j) (gCons (gName k) gNil))) (dd K (.tuple [d, e])) δ ((δ.set j (some (dd K d))).set k (some (dd K e))) vs := fun x σ G H Q s sg p q => by
  cases p with
  | @tup a xs _ h da =>
    cases da with
    | cons h1 t1 =>
      cases t1 with
      | cons h2 t2 =>
        cases t2
        exact ⟨a, _, rfl, SqT.mono h sg, rfl, _, _, rfl, _, _, rfl, rfl, q _ ((s.set h1).set h2) (wipe_set2 hj hk)⟩
/-- [e for target in .. if t] -/
theorem ev_lcG {wi : TI} {g0 : TG} {n : Nat} {Y : Nat → Pd} {tt : TT} {vs : List Nat} {b : Nat → Bool} {f : Nat → PyData} {δ' : Nat → List (Option Pd)} (hw : WkD m wi δ n Y) (hg : ∀ i, i < n → TgD g0 (Y i) (wipeD δ vs) (δ' i) vs) (hn : n ≤ 1000000)
    (ht : ∀ D o, ¬ m.dep D → ∀ i, i < n → EvB (m.hold D o) tt (δ' i) (b i))
    (he : ∀ D o, ¬ m.dep D → ∀ i, i < n → b i = true → EvD (m.hold D o) te (δ' i) (dd K (f i))) :
    EvD m (tLc wi g0 tt te vs) δ (dd K (.list (((List.range n).filter b).map f))) := fun σ G H s c Q q =>
  hw σ G H s c _ fun J G1 H1 g ⟨Gd, Yl, W, hG, hY⟩ D hD => by
    have c1 := g.cn c
    refine lc_it W (fun i H' => CpI m K G1 H1 D H' (((List.range i).filter b).map f)) (cp_start c1 hD) (fun i H' _ ⟨G', acc, g', _⟩ => hG H' (g'.gg.trans g'.gh)) ?_ ?_
    · rintro i x H' H'' hi ⟨G', acc, g', gD, hd, da⟩ y
      obtain ⟨G2, g2, px⟩ := hY m i H' x H'' G' hi g'.gg (g'.cn c1) y
      have nD : ¬ m.chg D := fun e => Md.fresh c1.iv hD (m.sub D e)
      have hd2 : H'' D = some (.lst acc) := g2.r D _ nD hd
      have gD2 := g2.out gD hd
      have gg := g'.trans g2
      have ch := (gg.cn c1).hold hd2 gD2
      have nd := Md.fresh c1.iv hD
      refine hg i hi x σ G2 H'' _ ((s.mono (g.gg.trans gg.gg)).wipe vs) ch.gh px fun σ2 s2 hwp => ?_
      refine ⟨hwp, ?_⟩
      refine ht D (.lst acc) nd i hi _ G2 H'' s2 ch _ fun G3 H3 g3 => ?_
      have g3' := g3.unhold hd2
      have hd3 : H3 D = some (.lst acc) := g3.iv.2
      have gD3 := g3'.out gD2 hd2
      rw [range_fm]
      by_cases hb : b i = true
      · rw [if_pos hb, if_pos hb]
        refine he D (.lst acc) nd i hi hb _ G3 H3 (s2.mono g3.gg) (g3.cn ch) _ fun v G4 H4 g4 p => ?_
        have g4' := g4.unhold hd3
        refine ⟨acc, g4.iv.2, ?_, cp_more c1 hD ((gg.trans g3').trans g4') (g4'.out gD3 hd3) (DpAll.mono ((g2.gg.trans g3.gg).trans g4.gg) da) p⟩
        have l1 := da.length
        have l2 : (((List.range i).filter b).map f).length ≤ i := by
          rw [List.length_map]
          exact Nat.le_trans (List.length_filter_le _ _) (by rw [List.length_range]; exact Nat.le_refl _)
        have : (1000000 : Nat) < sizeLine := by decide
        omega
      · have hb' : b i = false := by simpa using hb
        rw [if_neg hb, if_neg hb, List.append_nil]
        exact ⟨G3, acc, gg.trans g3', gD3, hd3, DpAll.mono (g2.gg.trans g3.gg) da⟩
    · intro H' h
      obtain ⟨G', g', p⟩ := cp_done c1 hD h
      exact q _ G' H' (g.trans g') p
/-- .. the target one name -/
theorem ev_lc {wi : TI} {j n : Nat} {Y : Nat → Pd} {tt : TT} {vs : List Nat} {b : Nat → Bool} {f : Nat → PyData} (hw : WkD m wi δ n Y) (hj : j ∈ vs) (hn : n ≤ 1000000)
    (ht : ∀ D o, ¬ m.dep D → ∀ i, i < n → EvB (m.hold D o) tt ((wipeD δ vs).set j (some (Y i))) (b i))
    (he : ∀ D o, ¬ m.dep D → ∀ i, i < n → b i = true → EvD (m.hold D o) te ((wipeD δ vs).set j (some (Y i))) (dd K (f i))) :
    EvD m (tLc wi (gName j) tt te vs) δ (dd K (.list (((List.range n).filter b).map f))) := ev_lcG hw (fun _ _ => tg_name hj) hn ht he
/-- zip of two tuples -/
theorem wk_zipT {ta : TA} {xs ys : List PyData} (h : EvA m ta δ [dd K (.tuple xs), dd K (.tuple ys)]) : WkD m (RZ.iZipA K ta) δ (min xs.length ys.length) (fun i => dd K (.tuple [xs.getD i .none, ys.getD i .none])) := fun σ G H s c Q q =>
  h σ G H s c _ fun vs G1 H1 g ap => by
    obtain ⟨v, w, rfl, p, r⟩ := all2_two ap
    cases p with
    | @tup a vs _ e d =>
      cases r with
      | @tup b ws _ e' d' =>
        refine ⟨a, b, vs, ws, rfl, .inr ⟨SqT.mono e (g.cn c).gh, SqT.mono e' (g.cn c).gh, q _ G1 H1 g ⟨fun H => SqT K H a vs ∧ SqT K H b ws, YPair (fun i => vs[i]?) (fun i => ws[i]?), ?_, fun H' s' => ⟨SqT.mono e s', SqT.mono e' s'⟩, ?_⟩⟩⟩
        · rw [← d.length, ← d'.length]
          refine ⟨fun i _ hi q => ?_, fun _ q => ⟨vs, ws, q.1, q.2, by omega⟩, fun i H v H' _ q y => ?_⟩
          · have h1 : i < vs.length := by omega
            have h2 : i < ws.length := by omega
            exact ⟨vs, ws, vs[i], ws[i], q.1, q.2, by simp [h1], by simp [h2]⟩
          · obtain ⟨T, x, z, h1, h2, h3, h4, h5⟩ := y
            exact ⟨T, x, z, h1, h2, h3, h4 vs q.1, h5 ws q.2⟩
        · rintro m' i H' x H'' G' hi s' c' ⟨T, x1, x2, rfl, hT, rfl, hx1, hx2⟩
          obtain ⟨d1, e1, p1⟩ := d.getV hx1
          obtain ⟨d2, e2, p2⟩ := d'.getV hx2
          have t := Go.new (o := .tup [x1, x2]) c' hT
          refine ⟨_, t, ?_⟩
          show Dp K _ (.ref T) (.tuple [xs.getD i .none, ys.getD i .none])
          rw [List.getD_eq_getElem?_getD, e1, List.getD_eq_getElem?_getD, e2]
          exact .tup (.inl (.inl upd_same)) (.cons (Dp.mono (s'.trans t.gg) p1) (.cons (Dp.mono (s'.trans t.gg) p2) .nil))
/-- [e for x in .. for y in .. if t] -/
theorem ev_lc2 {wi wi1 : TI} {j j1 n : Nat} {Y : Nat → Pd} {n1 : Nat → Nat} {Y1 : Nat → Nat → Pd} {tt1 : TT} {vs vs1 : List Nat} {b : Nat → Nat → Bool} {f : Nat → Nat → PyData} (hw : WkD m wi δ n Y) (hj : j ∈ vs) (hj1 : j1 ∈ vs1)
    (hn : ∀ k, k ≤ n → ((List.range k).flatMap fun i => ((List.range (n1 i)).filter (b i)).map (f i)).length ≤ 1000000) (hn1 : ∀ i, i < n → n1 i ≤ 1000000)
    (hw1 : ∀ D o, ¬ m.dep D → ∀ i, i < n → WkD (m.hold D o) wi1 ((wipeD δ vs).set j (some (Y i))) (n1 i) (Y1 i))
    (ht : ∀ D o, ¬ m.dep D → ∀ i k, i < n → k < n1 i → EvB (m.hold D o) tt1 ((wipeD ((wipeD δ vs).set j (some (Y i))) vs1).set j1 (some (Y1 i k))) (b i k))
    (he : ∀ D o, ¬ m.dep D → ∀ i k, i < n → k < n1 i → b i k = true → EvD (m.hold D o) te ((wipeD ((wipeD δ vs).set j (some (Y i))) vs1).set j1 (some (Y1 i k))) (dd K (f i k))) :
    EvD m (tLc2 wi (gName j) tYes wi1 (gName j1) tt1 te vs vs1) δ (dd K (.list ((List.range n).flatMap fun i => ((List.range (n1 i)).filter (b i)).map (f i)))) := fun σ G H s c Q q =>
  hw σ G H s c _ fun J G1 H1 g ⟨Gd, Yl, W, hG, hY⟩ D hD => by
    have c1 := g.cn c
    have nd := Md.fresh c1.iv hD
    have nD : ¬ m.chg D := fun e => nd (m.sub D e)
    have big : (3000000 : Nat) < sizeLine := by decide
    refine ⟨fun i k H' => k = n - i ∧ i ≤ n ∧ CpI m K G1 H1 D H' ((List.range i).flatMap fun i => ((List.range (n1 i)).filter (b i)).map (f i)), ⟨n, by simp, Nat.zero_le _, cp_start c1 hD⟩, ?_⟩
    rintro i k H' ⟨rfl, hi, ⟨G', acc, g', gD, hd, da⟩⟩
    by_cases hlt : i < n
    · refine .inr ⟨W.goes i H' hlt (hG H' (g'.gg.trans g'.gh)), fun H' => CpI m K G1 H1 D H' ((List.range (i + 1)).flatMap fun i => ((List.range (n1 i)).filter (b i)).map (f i)), fun H'' h => ⟨n - (i + 1), by omega, rfl, hlt, h⟩, fun x H'' y => ?_⟩
      have y := W.yields i H' x H'' hlt (hG H' (g'.gg.trans g'.gh)) y
      obtain ⟨G2, g2, px⟩ := hY m i H' x H'' G' hlt g'.gg (g'.cn c1) y
      have hd2 : H'' D = some (.lst acc) := g2.r D _ nD hd
      have gD2 := g2.out gD hd
      have gg := g'.trans g2
      have s2 : Sl G2 ((wipe σ vs).set j (some x)) ((wipeD δ vs).set j (some (Y i))) := ((s.mono (g.gg.trans gg.gg)).wipe vs).set px
      have ch := (gg.cn c1).hold hd2 gD2
      refine ⟨wipe_set (σ := σ) hj σ, ?_⟩
      unfold tYes
      dsimp only
      rw [if_pos rfl]
      refine hw1 D (.lst acc) nd i hlt _ G2 H'' s2 ch _ fun J1 G3 H3 g3 ⟨Gd1, Yl1, W1, hG1, hY1⟩ => ?_
      have g3' := g3.unhold hd2
      have hd3 : H3 D = some (.lst acc) := g3.iv.2
      have gD3 := g3'.out gD2 hd2
      have g03 := gg.trans g3'
      have l1 := da.length
      have l2 := hn i hi
      refine ⟨fun e k' H4 => k' = n1 i - e ∧ e ≤ n1 i ∧ ∃ G4 acc4, Go m G1 H1 G4 H4 ∧ Same G3 G4 ∧ G4 D = none ∧ H4 D = some (.lst acc4) ∧ DpAll K G4 acc4 (((List.range i).flatMap fun i => ((List.range (n1 i)).filter (b i)).map (f i)) ++ ((List.range e).filter (b i)).map (f i)), ⟨n1 i, by simp, Nat.zero_le _, G3, acc, g03, Same.refl _, gD3, hd3, by simpa using DpAll.mono (g2.gg.trans g3.gg) da⟩, ?_⟩
      rintro e k' H4 ⟨rfl, he', G4, acc4, g4, s34, gD4, hd4, da4⟩
      have l4 := da4.length
      rw [List.length_append] at l4
      have l5 : (((List.range e).filter (b i)).map (f i)).length ≤ e := by
        rw [List.length_map]
        exact Nat.le_trans (List.length_filter_le _ _) (by rw [List.length_range]; exact Nat.le_refl _)
      have l6 := hn1 i hlt
      by_cases hle : e < n1 i
      · refine .inr ⟨W1.goes e H4 hle (hG1 H4 (s34.trans g4.gh)), fun H5 => ∃ G4 acc4, Go m G1 H1 G4 H5 ∧ Same G3 G4 ∧ G4 D = none ∧ H5 D = some (.lst acc4) ∧ DpAll K G4 acc4 (((List.range i).flatMap fun i => ((List.range (n1 i)).filter (b i)).map (f i)) ++ ((List.range (e + 1)).filter (b i)).map (f i)), fun H5 h => ⟨n1 i - (e + 1), by omega, rfl, hle, h⟩, fun x1 H5 y1 => ?_⟩
        have y1 := W1.yields e H4 x1 H5 hle (hG1 H4 (s34.trans g4.gh)) y1
        obtain ⟨G5, g5, px1⟩ := hY1 m e H4 x1 H5 G4 hle s34 (g4.cn c1) y1
        have hd5 : H5 D = some (.lst acc4) := g5.r D _ nD hd4
        have gD5 := g5.out gD4 hd4
        have g05 := g4.trans g5
        have ch5 := (g05.cn c1).hold hd5 gD5
        have s5 : Sl G5 ((wipe ((wipe σ vs).set j (some x)) vs1).set j1 (some x1)) ((wipeD ((wipeD δ vs).set j (some (Y i))) vs1).set j1 (some (Y1 i e))) := ((s2.mono (g3.gg.trans (s34.trans g5.gg))).wipe vs1).set px1
        refine ⟨wipe_set (σ := σ) hj1 _, ?_⟩
        refine ht D (.lst acc4) nd i e hlt hle _ G5 H5 s5 ch5 _ fun G6 H6 g6 => ?_
        have g6' := g6.unhold hd5
        have hd6 : H6 D = some (.lst acc4) := g6.iv.2
        have gD6 := g6'.out gD5 hd5
        by_cases hb : b i e = true
        · rw [if_pos hb]
          refine he D (.lst acc4) nd i e hlt hle hb _ G6 H6 (s5.mono g6.gg) (g6.cn ch5) _ fun v G7 H7 g7 p => ?_
          have g7' := g7.unhold hd6
          obtain ⟨G8, acc8, g8, gD8, hd8, da8⟩ := cp_more c1 hD ((g05.trans g6').trans g7') (g7'.out gD6 hd6) (DpAll.mono ((g5.gg.trans g6.gg).trans g7.gg) da4) p
          refine ⟨acc4, g7.iv.2, by omega, G7, acc4 ++ [v], ?_, s34.trans ((g5.gg.trans g6.gg).trans g7.gg), g7'.out gD6 hd6, upd_same, ?_⟩
          · have gx := (g05.trans g6').trans g7'
            have gDx := g7'.out gD6 hd6
            refine ⟨gx.gg, fun a u q => ?_, gx.fr, fun a u z h => ?_, Md.upd gx.iv nd⟩
            · rw [upd_ne (ne_of_none q gDx)]; exact gx.gh a u q
            · rw [upd_ne (ne_of_none h hD)]; exact gx.r a u z h
          · rw [range_fm, if_pos hb, ← List.append_assoc]
            exact (DpAll.mono ((g5.gg.trans g6.gg).trans g7.gg) da4).append (.cons p .nil)
        · rw [if_neg hb]
          refine ⟨G6, acc4, g05.trans g6', s34.trans (g5.gg.trans g6.gg), gD6, hd6, ?_⟩
          rw [range_fm, if_neg hb, List.append_nil]
          exact DpAll.mono (g5.gg.trans g6.gg) da4
      · have ee : e = n1 i := by omega
        subst ee
        refine .inl ⟨W1.stops H4 (hG1 H4 (s34.trans g4.gh)), G4, acc4, g4, gD4, hd4, ?_⟩
        rw [List.range_succ, List.flatMap_append]
        simpa using da4
    · have e : i = n := by omega
      subst e
      obtain ⟨G', g', p⟩ := cp_done c1 hD ⟨G', acc, g', gD, hd, da⟩
      exact .inl ⟨W.stops H' (hG H' (g'.gg.trans g'.gh)), q _ G' H' (g.trans g') p⟩
end
end Nd

namespace Nd
open PySem L2 PyProof.Rows
section
variable {K : PySem.W.Frag} {m : Md} {E : XK} {δ : List (Option Pd)} {ta tb tc te : TE} {t u : TT} {P R S T : Pd} {t1 t2 : TS} {O : Ou}
theorem tyx_dp {G H : Hp} {v : V} {d : PyData} (h : Dp K G v d) (s : Same G H) : TyX K H v (.type (tyD d)) := by
  cases h with
  | non => exact .base .non
  | bl b => exact .base (.bl b)
  | int i => exact .base (.int i)
  | str x => exact .base (.str x)
  | lst h _ =>
    rcases h with (h | ⟨o, h⟩) | ⟨o, its, n, h1, h2, _⟩
    · exact .base (.lst (s _ _ h))
    · exact .base (.frz (s _ _ h))
    · exact .kList h1 h2
  | tup h _ =>
    rcases h with (h | ⟨o, h⟩) | ⟨o, its, n, h1, h2, _⟩
    · exact .base (.tup (s _ _ h))
    · exact .fTuple (s _ _ h)
    · exact .kTuple h1 h2
/-- is it an instance of the built-in class T -/
def isiD (T : String) (d : PyData) : Bool := (kitB (tyD d) T).getD false
theorem cb_isi {T : String} {d : PyData} (h : (kitB (tyD d) T).isSome = true) : CbD m (rIsi K) [dd K d, vv (.ty T)] (db K (isiD T d)) := fun vs G H c a Q q => by
  obtain ⟨v, w, rfl, p, r⟩ := all2_two a
  cases (show w = V.ty T from r)
  obtain ⟨b, hb⟩ := Option.isSome_iff_exists.mp h
  refine ⟨v, .ty T, .type (tyD d), .type T, b, rfl, .ty T, tyx_dp p c.gh, kit_ty hb, q _ G H (Go.refl c) ?_⟩
  show Dp K G (.bl b) (.bool (isiD T d))
  unfold isiD
  rw [hb]
  exact .bl _
theorem kit_int (d : PyData) : kitB (tyD d) "int" = some (match d with | .int _ => true | .bool _ => true | _ => false) := by cases d <;> dsimp only [tyD] <;> decide +kernel
theorem kit_bool (d : PyData) : kitB (tyD d) "bool" = some (match d with | .bool _ => true | _ => false) := by cases d <;> dsimp only [tyD] <;> decide +kernel
theorem kit_tuple (d : PyData) : kitB (tyD d) "tuple" = some (match d with | .tuple _ => true | _ => false) := by cases d <;> dsimp only [tyD] <;> decide +kernel
theorem kit_list (d : PyData) : kitB (tyD d) "list" = some (match d with | .list _ => true | _ => false) := by cases d <;> dsimp only [tyD] <;> decide +kernel
theorem kit_str (d : PyData) : kitB (tyD d) "str" = some (match d with | .str _ => true | _ => false) := by cases d <;> dsimp only [tyD] <;> decide +kernel
theorem cb_isiInt {d : PyData} : CbD m (rIsi K) [dd K d, vv (.ty "int")] (db K (match d with | .int _ => true | .bool _ => true | _ => false)) := by
  have h := cb_isi (m := m) (K := K) (T := "int") (d := d) (by rw [kit_int]; rfl)
  unfold isiD at h; rw [kit_int] at h; exact h
theorem cb_isiBool {d : PyData} : CbD m (rIsi K) [dd K d, vv (.ty "bool")] (db K (match d with | .bool _ => true | _ => false)) := by
  have h := cb_isi (m := m) (K := K) (T := "bool") (d := d) (by rw [kit_bool]; rfl)
  unfold isiD at h; rw [kit_bool] at h; exact h
theorem cb_isiTuple {d : PyData} : CbD m (rIsi K) [dd K d, vv (.ty "tuple")] (db K (match d with | .tuple _ => true | _ => false)) := by
  have h := cb_isi (m := m) (K := K) (T := "tuple") (d := d) (by rw [kit_tuple]; rfl)
  unfold isiD at h; rw [kit_tuple] at h; exact h
theorem cb_isiList {d : PyData} : CbD m (rIsi K) [dd K d, vv (.ty "list")] (db K (match d with | .list _ => true | _ => false)) := by
  have h := cb_isi (m := m) (K := K) (T := "list") (d := d) (by rw [kit_list]; rfl)
  unfold isiD at h; rw [kit_list] at h; exact h
theorem cb_isiStr {d : PyData} : CbD m (rIsi K) [dd K d, vv (.ty "str")] (db K (match d with | .str _ => true | _ => false)) := by
  have h := cb_isi (m := m) (K := K) (T := "str") (d := d) (by rw [kit_str]; rfl)
  unfold isiD at h; rw [kit_str] at h; exact h
/-- an integer that is no flag -/
def isInt : PyData → Bool
  | .int _ => true
  | _ => false
def Flds (G : Hp) (fs : List (Str × V)) (ps : List (Str × Pd)) : Prop := ∀ f : Str, match ps.lookup f with
  | some P => ∃ v, fs.lookup f = some v ∧ P.φ v G
  | none => fs.lookup f = none
theorem Flds.mono {G G' : Hp} {fs : List (Str × V)} {ps : List (Str × Pd)} (h : Flds G fs ps) (s : Same G G') : Flds G' fs ps := fun f => by
  have z := h f
  cases e : ps.lookup f with
  | none => rw [e] at z; exact z
  | some P =>
    rw [e] at z
    obtain ⟨v, a, b⟩ := z
    exact ⟨v, a, P.mono _ _ _ b s⟩
/-- an instance of the class at C whose fields are so described -/
def obj (C : Addr) (ps : List (Str × Pd)) : Pd := ⟨fun v G => ∃ a dx fs, v = .ref a ∧ G a = some (.ins C dx fs) ∧ Flds G fs ps, fun _ _ _ ⟨a, dx, fs, e, h, f⟩ s => ⟨a, dx, fs, e, s _ _ h, f.mono s⟩⟩
theorem ev_fld {C : Addr} {ps : List (Str × Pd)} {f : Str} (h : EvD m ta δ (obj C ps)) (hc : Cls K C) (hn : NoAttr K C f) (hl : ps.lookup f = some P) : EvD m (tFld K ta f) δ P := fun σ G H s c Q q =>
  h σ G H s c _ fun v G1 H1 g ⟨a, dx, fs, e, ho, fl⟩ => by
    have z := fl f
    rw [hl] at z
    obtain ⟨w, l, p⟩ := z
    exact ⟨a, C, dx, fs, w, e, (g.cn c).gh _ _ ho, hc, hn, l, q w G1 H1 g p⟩
theorem ev_meth {F : Md → List Pd → Oc → Prop} {C : Addr} {ps : List (Str × Pd)} {mn : Str} {tA : TA} {Ps : List Pd} (h : EvD m ta δ (obj C ps)) (hl : ps.lookup mn = none) (ha : EvA m tA δ Ps) (hf : F m (obj C ps :: Ps) (.ret S)) :
    EvD m (tMeth C mn (spF F) [] E ta tA) δ S := fun σ G H s c Q q =>
  h σ G H s c _ fun v G1 H1 g p => by
    obtain ⟨a, dx, fs, e, ho, fl⟩ := p
    have z := fl mn
    rw [hl] at z
    refine ⟨a, dx, fs, e, (g.cn c).gh _ _ ho, z, ?_⟩
    refine ha σ G1 H1 (s.mono g.gg) (g.cn c) _ fun vs G2 H2 g2 p2 => ?_
    rw [List.append_nil]
    exact ⟨m, G2, obj C ps :: Ps, .ret S, hf, g2.cn (g.cn c), .cons ((obj C ps).mono _ _ _ ⟨a, dx, fs, e, ho, fl⟩ g2.gg) p2, fun w G3 H3 g3 p3 => q w G3 H3 ((g.trans g2).trans g3) p3⟩
def Md.opn (m : Md) (D : Addr) : Md where
  chg := fun a => m.chg a ∨ a = D
  dep := fun a => m.dep a ∨ a = D
  inv := fun H => m.inv H ∧ ∃ o, H D = some o
  sub := fun a h => h.imp (m.sub a) id
  mono := fun H H' h k => ⟨m.mono H H' h.1 fun a o d => k a o (.inl d), let ⟨o, e⟩ := h.2; ⟨o, k D o (.inr rfl) e⟩⟩
  has := fun H a h d => d.elim (fun z => m.has H a h.1 z) fun z => let ⟨o, e⟩ := h.2; ⟨o, by rw [z]; exact e⟩
theorem Go.opn {G H G' H' : Hp} {D : Addr} {o : HO} (t : Go (m.hold D o) G H G' H') : Go (m.opn D) G H G' H' := ⟨t.gg, t.gh, t.fr, t.r, t.iv.1, o, t.iv.2⟩
theorem Go.openOf {G H G' H' : Hp} {D : Addr} {o : HO} (t : Go m G H G' H') (h : H D = some o) (n : ¬ m.chg D) : Go (m.opn D) G H G' H' := ⟨t.gg, t.gh, t.fr, fun a u e => t.r a u fun z => e (.inl z), t.iv, o, t.r D o n h⟩
/-- the state within __init__: the instance at a, its fields so far -/
structure Cn1 (m : Md) (C a dx : Addr) (G H : Hp) (ps : List (Str × Pd)) : Prop where
  cn : Cn m G H
  nd : ¬ m.dep a
  ga : G a = none
  ob : ∃ fs, H a = some (.ins C dx fs) ∧ fs.length = ps.length ∧ Flds G fs ps
def putP (f : Str) (P : Pd) : List (Str × Pd) → List (Str × Pd)
  | [] => [(f, P)]
  | (g, x) :: r => if g = f then (g, P) :: r else (g, x) :: putP f P r
theorem lookup_putP (f g : Str) (P : Pd) : ∀ ps : List (Str × Pd), (putP f P ps).lookup g = if g = f then some P else ps.lookup g
  | [] => by
    show List.lookup g [(f, P)] = _
    by_cases h : g = f
    · subst h; simp [List.lookup]
    · have : (g == f) = false := by simpa using h
      simp [List.lookup, this, h]
  | (k, x) :: r => by
    unfold putP
    by_cases hk : k = f
    · subst hk
      rw [if_pos rfl]
      by_cases h : g = k
      · subst h; simp [List.lookup]
      · have : (g == k) = false := by simpa using h
        simp [List.lookup, this, h]
    · rw [if_neg hk]
      by_cases h : g = k
      · subst h
        simp [List.lookup, hk]
      · have e : (g == k) = false := by simpa using h
        have ih := lookup_putP f g P r
        simp only [List.lookup, e]
        exact ih
theorem Flds.put {G : Hp} {fs : List (Str × V)} {ps : List (Str × Pd)} {f : Str} {v : V} {P : Pd} (h : Flds G fs ps) (p : P.φ v G) : Flds G (putF f v fs) (putP f P ps) := fun g => by
  rw [lookup_putP, lookup_putF]
  by_cases e : g = f
  · rw [if_pos e, if_pos e]; exact ⟨v, rfl, p⟩
  · rw [if_neg e, if_neg e]; exact h g
theorem putF_len (f : Str) (v : V) : ∀ fs : List (Str × V), (putF f v fs).length ≤ fs.length + 1
  | [] => by simp [putF]
  | (g, x) :: r => by
    unfold putF
    by_cases e : g = f
    · rw [if_pos e]; simp
    · rw [if_neg e]
      have := putF_len f v r
      simp only [List.length_cons]
      omega
/-- a block of __init__: from the fields ps to the fields of fin; or an error of X -/
def In (m : Md) (C a dx : Addr) (E : XK) (ts : TS) (δ : List (Option Pd)) (ps fin : List (Str × Pd)) (X : Addr → Pd → Prop) : Prop :=
  ∀ (σ : L2.St) (G H : Hp) (D : Ends), Sl G σ δ → Cn1 m C a dx G H ps → (∀ σ' G' H', Go (m.opn a) G H G' H' → Cn1 m C a dx G' H' fin → D.nx σ' H') →
    (∀ Ce P d v G' H', X Ce P → Go (m.opn a) G H G' H' → Fl m d v P G' H' → E (.ref Ce) (some d) H') → ts D σ H
theorem Cn1.hold {C a dx : Addr} {G H : Hp} {ps : List (Str × Pd)} (c : Cn1 m C a dx G H ps) : ∃ fs, H a = some (.ins C dx fs) ∧ fs.length = ps.length ∧ Flds G fs ps ∧ Cn (m.hold a (.ins C dx fs)) G H := by
  obtain ⟨fs, e, l, f⟩ := c.ob
  exact ⟨fs, e, l, f, c.cn.hold e c.ga⟩
theorem Cn1.go {C a dx : Addr} {G H G' H' : Hp} {ps : List (Str × Pd)} {fs : List (Str × V)} (c : Cn1 m C a dx G H ps) (e : H a = some (.ins C dx fs)) (l : fs.length = ps.length) (f : Flds G fs ps) (g : Go (m.hold a (.ins C dx fs)) G H G' H') : Cn1 m C a dx G' H' ps :=
  ⟨(g.unhold e).cn c.cn, c.nd, (g.unhold e).out c.ga e, fs, g.iv.2, l, f.mono g.gg⟩
/-- self.f = e; rest -/
theorem in_fld {C a dx : Addr} {f : Str} {ps fin : List (Str × Pd)} {X : Addr → Pd → Prop} (h0 : δ[0]? = some (some (vv (.ref a)))) (hc : Cls K C) (hn : NoAttr K C f) (hl : ps.length < 500) (hnew : ps.lookup f = none) (h : ∀ fs, EvD (m.hold a (.ins C dx fs)) te δ P)
    (k : In m C a dx E t2 δ (ps ++ [(f, P)]) fin X) : In m C a dx E (tSeq (sFld K (tVar 0) te f) t2) δ ps fin X := fun σ G H D s c kn ke => by
  obtain ⟨fs, e, l, fl, ch⟩ := c.hold
  refine h fs σ G H s ch _ fun y G1 H1 g p => ?_
  have c1 := c.go e l fl g
  obtain ⟨v0, hv0, ev0⟩ := s.2 0 _ h0
  cases (show v0 = V.ref a from ev0)
  have e1 : H1 a = some (.ins C dx fs) := g.iv.2
  refine ⟨_, hv0, a, C, dx, fs, rfl, e1, hc, hn, by omega, ?_⟩
  have gg : Go (m.opn a) G H G1 (upd H1 a (.ins C dx (putF f y fs))) := by
    refine ⟨g.gg, fun b u q => ?_, g.fr, fun b u z q => ?_, Md.upd c1.cn.iv c.nd, _, upd_same⟩
    · rw [upd_ne (ne_of_none q c1.ga)]; exact g.gh b u q
    · rw [upd_ne (fun w => z (.inr w))]; exact g.r b u z q
  have newF : fs.lookup f = none := by
    have z := fl f
    rw [hnew] at z; exact z
  have e2 : putF f y fs = fs ++ [(f, y)] := by
    have aux : ∀ l : List (Str × V), l.lookup f = none → putF f y l = l ++ [(f, y)] := by
      intro l
      induction l with
      | nil => intro _; rfl
      | cons q r ih =>
        obtain ⟨k, x⟩ := q
        intro z
        by_cases w : f = k
        · subst w; simp [List.lookup] at z
        · have w' : (f == k) = false := by simpa using w
          simp only [List.lookup, w'] at z
          unfold putF
          rw [if_neg (Ne.symm w), ih z]
          rfl
    exact aux fs newF
  refine k σ G1 _ D (s.mono g.gg) ⟨⟨gg.gh, gg.iv.1, c1.cn.nm⟩, c.nd, c1.ga, putF f y fs, upd_same, ?_, ?_⟩ (fun σ' G' H' g' => kn σ' G' H' (gg.trans g')) (fun Ce P d v G' H' x g' => ke Ce P d v G' H' x (gg.trans g'))
  · rw [e2, List.length_append, List.length_append, l]; rfl
  · intro f'
    rw [lookup_putF]
    have lk : (ps ++ [(f, P)]).lookup f' = if f' = f then some P else ps.lookup f' := by
      have aux : ∀ l : List (Str × Pd), l.lookup f = none → (l ++ [(f, P)]).lookup f' = if f' = f then some P else l.lookup f' := by
        intro l
        induction l with
        | nil =>
          intro _
          by_cases w : f' = f
          · subst w; simp [List.lookup]
          · have w' : (f' == f) = false := by simpa using w
            simp [List.lookup, w', w]
        | cons q r ih =>
          obtain ⟨k, x⟩ := q
          intro z
          by_cases w : f = k
          · subst w; simp [List.lookup] at z
          · have w' : (f == k) = false := by simpa using w
            simp only [List.lookup, w'] at z
            have ih := ih z
            by_cases v : f' = k
            · subst v
              have w2 : ¬ f' = f := fun q => w q.symm
              simp [List.lookup, w2]
            · have v' : (f' == k) = false := by simpa using v
              simp only [List.cons_append, List.lookup, v']
              exact ih
      exact aux ps hnew
    rw [lk]
    by_cases w : f' = f
    · rw [if_pos w, if_pos w]; exact ⟨y, rfl, p⟩
    · rw [if_neg w, if_neg w]; exact (fl.mono g.gg) f'
theorem in_done {C a dx : Addr} {ps : List (Str × Pd)} {X : Addr → Pd → Prop} : In m C a dx E tNext δ ps ps X := fun σ G H D s c kn ke => by
  obtain ⟨fs, e, l, fl, ch⟩ := c.hold
  exact kn σ G H (Go.opn (Go.refl ch)) c
theorem in_fld1 {C a dx : Addr} {f : Str} {ps : List (Str × Pd)} {X : Addr → Pd → Prop} (h0 : δ[0]? = some (some (vv (.ref a)))) (hc : Cls K C) (hn : NoAttr K C f) (hl : ps.length < 500) (hnew : ps.lookup f = none) (h : ∀ fs, EvD (m.hold a (.ins C dx fs)) te δ P) :
    In m C a dx E (sFld K (tVar 0) te f) δ ps (ps ++ [(f, P)]) X := fun σ G H D s c kn ke =>
  in_fld (t2 := tNext) h0 hc hn hl hnew h in_done σ G H D s c kn ke
/-- if t: ..; rest, t not met -/
theorem in_ifN {C a dx : Addr} {ps fin : List (Str × Pd)} {X : Addr → Pd → Prop} (h : ∀ fs, EvB (m.hold a (.ins C dx fs)) t δ false) (k : In m C a dx E t2 δ ps fin X) : In m C a dx E (tSeq (tIfS t t1 tNext) t2) δ ps fin X := fun σ G H D s c kn ke => by
  obtain ⟨fs, e, l, fl, ch⟩ := c.hold
  refine h fs σ G H s ch _ fun G1 H1 g => ?_
  rw [if_neg Bool.false_ne_true]
  exact k σ G1 H1 D (s.mono g.gg) (c.go e l fl g) (fun σ' G' H' g' => kn σ' G' H' ((Go.opn g).trans g')) (fun Ce P d v G' H' x g' => ke Ce P d v G' H' x ((Go.opn g).trans g'))
/-- x = e; rest -/
theorem in_set {C a dx : Addr} {i : Nat} {ps fin : List (Str × Pd)} {X : Addr → Pd → Prop} (h : ∀ fs, EvD (m.hold a (.ins C dx fs)) te δ P) (k : In m C a dx E t2 (δ.set i (some P)) ps fin X) : In m C a dx E (tSeq (tAsg te (gName i)) t2) δ ps fin X := fun σ G H D s c kn ke => by
  obtain ⟨fs, e, l, fl, ch⟩ := c.hold
  refine h fs σ G H s ch _ fun v G1 H1 g p => ?_
  exact k _ G1 H1 D ((s.mono g.gg).set p) (c.go e l fl g) (fun σ' G' H' g' => kn σ' G' H' ((Go.opn g).trans g')) (fun Ce P d v G' H' x g' => ke Ce P d v G' H' x ((Go.opn g).trans g'))
inductive Oi where
  | ret (ps : List (Str × Pd))
  | exc (C : Addr) (P : Pd)
def Oi.to (m : Md) (C a dx : Addr) (G H : Hp) (Q : VK) (E : XK) : Oi → Prop
  | .ret ps => ∀ G' H', Go (m.opn a) G H G' H' → Cn1 m C a dx G' H' ps → Q .non H'
  | .exc Ce P => ∀ d v G' H', Go (m.opn a) G H G' H' → Fl m d v P G' H' → E (.ref Ce) (some d) H'
/-- __init__'s promise -/
def spI (C : Addr) (F : Md → List Pd → Oi → Prop) : Sp := fun vs H Q E => ∃ (m : Md) (G : Hp) (a dx : Addr) (ws : List V) (Ps : List Pd) (O : Oi), vs = .ref a :: ws ∧ F m Ps O ∧ Cn1 m C a dx G H [] ∧ All2 G ws Ps ∧ O.to m C a dx G H Q E
theorem mk_raw {F : Md → List Pd → Oi → Prop} {C : Addr} {Ps : List Pd} {ps : List (Str × Pd)} {vs : List V} {G1 H1 : Hp} {Q : VK} (c1 : Cn m G1 H1) (p : All2 G1 vs Ps) (hf : F m Ps (.ret ps)) (q : ∀ v G' H', Go m G1 H1 G' H' → (obj C ps).φ v G' → Q v H')
    (x dx : Addr) (hx : H1 x = none) (hdx : H1 dx = none) (hne : dx ≠ x) : spI C F (.ref x :: (vs ++ [])) (upd (upd H1 dx (.own x)) x (.ins C dx [])) (fun v H2 => v = .non ∧ Q (.ref x) H2) E := by
    have s2 : Same H1 (upd (upd H1 dx (.own x)) x (.ins C dx [])) := fun b o e => by
      rw [upd_ne (ne_of_none e hx), upd_ne (ne_of_none e hdx)]; exact e
    have g1x : G1 x = none := by
      cases z : G1 x with
      | none => rfl
      | some o => rw [c1.gh x o z] at hx; cases hx
    rw [List.append_nil]
    refine ⟨m, G1, x, dx, vs, Ps, .ret ps, rfl, hf, ⟨⟨c1.gh.trans s2, Md.same c1.iv s2, c1.nm⟩, Md.fresh c1.iv hx, g1x, [], upd_same, rfl, fun f => rfl⟩, p, fun G' H' g' c' => ⟨rfl, ?_⟩⟩
    obtain ⟨fs, e, l, fl⟩ := c'.ob
    have sG : Same G' (upd G' x (.ins C dx fs)) := fun b o z => by rw [upd_ne (ne_of_none z c'.ga)]; exact z
    refine q (.ref x) (upd G' x (.ins C dx fs)) H' ⟨g'.gg.trans sG, fun b o z => ?_, fun b o z n => ?_, fun b o z n => ?_, c'.cn.iv⟩ ⟨x, dx, fs, rfl, upd_same, fl.mono sG⟩
    · by_cases w : b = x
      · subst w; rw [upd_same] at z; cases z; exact e
      · rw [upd_ne w] at z; exact g'.gh b o z
    · by_cases w : b = x
      · subst w; exact hx
      · rw [upd_ne w] at z
        have h2 := g'.fr b o z n
        cases k : H1 b with
        | none => rfl
        | some o' => rw [s2 b o' k] at h2; cases h2
    · exact g'.r b o (fun k => k.elim z (ne_of_none n hx)) (s2 b o n)
theorem ev_make {F : Md → List Pd → Oi → Prop} {C : Addr} {tA : TA} {Ps : List Pd} {ps : List (Str × Pd)} (ha : EvA m tA δ Ps) (hf : F m Ps (.ret ps)) : EvD m (tMake C (spI C F) [] E tA) δ (obj C ps) := fun σ G H s c Q q =>
  ha σ G H s c _ fun vs G1 H1 g p x dx hx hdx hne => mk_raw (g.cn c) p hf (fun v G' H' g' p' => q v G' H' (g.trans g') p') x dx hx hdx hne
theorem sl_start {G : Hp} {N : List Str} {vs : List V} {Ps : List Pd} (h : All2 G vs Ps) : Sl G (L2.start N vs) (Ps.map some ++ List.replicate (N.length - Ps.length) none) := by
  have hl := h.length
  refine ⟨by unfold L2.start; simp [hl], fun i P e => ?_⟩
  have key : ∀ {vs : List V} {Ps : List Pd} {i : Nat} {rest : List (Option V)} {rest' : List (Option Pd)}, All2 G vs Ps → (∀ (j : Nat) (P : Pd), rest'[j]? ≠ some (some P)) → (Ps.map some ++ rest')[i]? = some (some P) → ∃ v, (vs.map some ++ rest)[i]? = some (some v) ∧ P.φ v G := by
    intro vs Ps i rest rest' h hn e
    induction h generalizing i with
    | nil => exact absurd e (hn i P)
    | cons h1 t ih =>
      cases i with
      | zero => simp at e; subst e; exact ⟨_, rfl, h1⟩
      | succ i => exact ih (i := i) (by simpa using e)
  unfold L2.start
  refine key h (fun j P e => ?_) e
  rw [List.getElem?_replicate] at e
  split at e <;> cases e
theorem fn_ok {P : Program} {w : World} {mg : Str → Option Value} {base : Heap} {CX : CXT} {x qual : Str} {params : Arguments} {body : List Stmt} {scope : Scope} {dvs : List V} {kws : List (Str × V)} {f : Addr} {fd : FuncData} {N ps : List Str} {k : Nat}
    {F : Md → List Pd → Oc → Prop} (Fn : FunD K x qual params body scope dvs kws f fd) (Sc : FnScope N ps scope) (hlen : ∀ m Ps O, F m Ps O → Ps.length = ps.length)
    (hb : ∀ (cdv : Value) (A : Around) (outer : List Env) (s : Shared) (H : Hp) (E : XK), Room k (A.deeper (envOfC qual scope s.heap.objs.size f cdv)) →
      ∃ t, PSs (cxOf CX P w K mg base N qual scope f cdv A outer s H E) body t ∧
        ∀ m Ps O, F m Ps O → Bl m E t (Ps.map some ++ List.replicate (N.length - Ps.length) none) (match O with | .ret S => { nx := fun _ => ∀ G, S.φ .non G, rt := fun R => R = S } | .exc C P => { ex := fun C' P' => C' = C ∧ P' = P })) :
    FnOk P w K mg base CX (k + 1) f fd ps (spF F) := by
  refine Fn.ok Sc (fun vs H Q E h => ?_) (fun cdv A outer s H vs Q E hr h => ?_)
  · obtain ⟨m, G, Ps, O, hf, c, a, _⟩ := h
    rw [a.length, hlen m Ps O hf]
  · obtain ⟨t, pt, bl⟩ := hb cdv A outer s H E hr
    refine ⟨t, pt, ?_⟩
    obtain ⟨m, G, Ps, O, hf, c, a, q⟩ := h
    have b := bl m Ps O hf
    have st := sl_start (N := N) a
    cases O with
    | ret S =>
      refine b _ G H _ st c ⟨fun δ' σ' G' H' hn g s' => q .non G' H' g (hn G'), fun S' v G' H' e g p => q v G' H' g (by cases e; exact p), fun _ _ _ _ z => z.elim, fun _ _ _ _ z => z.elim, fun _ _ _ _ _ _ z => z.elim⟩
    | exc C P =>
      exact b _ G H _ st c ⟨fun _ _ _ _ z => z.elim, fun _ _ _ _ z => z.elim, fun _ _ _ _ z => z.elim, fun _ _ _ _ z => z.elim, fun C' P' d v G' H' z g e => by obtain ⟨rfl, rfl⟩ := z; exact q d v G' H' g e⟩
theorem init_ok {P : Program} {w : World} {mg : Str → Option Value} {base : Heap} {CX : CXT} {x qual : Str} {params : Arguments} {body : List Stmt} {scope : Scope} {dvs : List V} {kws : List (Str × V)} {f C : Addr} {fd : FuncData} {N ps : List Str} {k : Nat}
    {F : Md → List Pd → Oi → Prop} (Fn : FunD K x qual params body scope dvs kws f fd) (Sc : FnScope N ps scope) (hlen : ∀ m Ps O, F m Ps O → Ps.length + 1 = ps.length)
    (hb : ∀ (cdv : Value) (A : Around) (outer : List Env) (s : Shared) (H : Hp) (E : XK), Room k (A.deeper (envOfC qual scope s.heap.objs.size f cdv)) →
      ∃ t, PSs (cxOf CX P w K mg base N qual scope f cdv A outer s H E) body t ∧
        ∀ m Ps O a dx, F m Ps O → (match O with | .ret fin => In m C a dx E t (some (vv (.ref a)) :: (Ps.map some ++ List.replicate (N.length - (Ps.length + 1)) none)) [] fin (fun _ _ => False) | .exc Ce Pe => In m C a dx E t (some (vv (.ref a)) :: (Ps.map some ++ List.replicate (N.length - (Ps.length + 1)) none)) [] [] (fun C' P' => C' = Ce ∧ P' = Pe) ∧ False)) :
    FnOk P w K mg base CX (k + 1) f fd ps (spI C F) := by
  refine Fn.ok Sc (fun vs H Q E h => ?_) (fun cdv A outer s H vs Q E hr h => ?_)
  · obtain ⟨m, G, a, dx, ws, Ps, O, rfl, hf, c, al, _⟩ := h
    rw [List.length_cons, al.length, hlen m Ps O hf]
  · obtain ⟨t, pt, bl⟩ := hb cdv A outer s H E hr
    refine ⟨t, pt, ?_⟩
    obtain ⟨m, G, a, dx, ws, Ps, O, rfl, hf, c, al, q⟩ := h
    have b := bl m Ps O a dx hf
    have st := sl_start (N := N) (All2.cons (P := vv (.ref a)) (rfl : V.ref a = V.ref a) al)
    cases O with
    | ret fin => exact b _ G H _ st c (fun σ' G' H' g c' => q G' H' g c') (fun _ _ _ _ _ _ z => z.elim)
    | exc Ce Pe => exact b.2.elim
end
end Nd

namespace L2
open PySem PySem.Spec PyProof.Rows
theorem vals_range : ∀ (us : List Value) (f : Nat → V), (∀ (j : Nat) (u : Value), us[j]? = some u → RelV (f j) u) → Vals ((List.range us.length).map f) us
  | [], f, _ => .nil
  | u :: us, f, h => by
    rw [List.length_cons, List.range_succ_eq_map, List.map_cons, List.map_map]
    exact .cons (h 0 u rfl) (vals_range us (f ∘ Nat.succ) fun j v e => h (j + 1) v (by simpa using e))
section
variable {X : Cx}
/-- range(n) as a value -/
theorem cr_range1 : CallR X (.type "range") (fun vs H Q => ∃ j, vs = [V.int j] ∧ ∀ p, H p = none → Q (.ref p) (upd H p (.rng 0 j))) := by
  intro pins s σ H vs us Q I r h
  obtain ⟨j, rfl, q⟩ := h
  obtain ⟨u1, rfl, rj⟩ := vals1 r
  obtain ⟨u, rfl⟩ := rj
  refine call_range_1 ⟨.ref s.heap.objs.size, upd H s.heap.objs.size (.rng 0 j), I.laid (t' := s.toks + 1 + 1) (fun b o e => Heap.get?_push_of_some _ e) (Nat.le_refl _) ?_, rfl, q _ (I.hok.fresh (Nat.le_refl _))⟩
  exact ⟨_, _, _, Heap.get?_push_size _ rfl⟩
/-- list(range object) -/
theorem cr_listRng (hc : X.calm = true) : CallR X (.type "list") (fun vs H Q => ∃ a lo hi, vs = [V.ref a] ∧ H a = some (.rng lo hi) ∧ -(2 ^ 40) ≤ lo ∧ lo ≤ 2 ^ 40 ∧ -(2 ^ 40) ≤ hi ∧ hi ≤ 2 ^ 40 ∧ (hi - lo) ≤ 1000000 ∧
    ∀ p, H p = none → Q (.ref p) (upd H p (.lst (((List.range (hi - lo).toNat).map fun (i : Nat) => lo + (i : Int)).map V.int)))) := by
  intro pins s σ H vs us Q I r h
  obtain ⟨a, lo, hi, rfl, ha, h1, h2, h3, h4, h5, q⟩ := h
  obtain ⟨u1, rfl, ra⟩ := vals1 r
  cases ra
  obtain ⟨t, u, v, hr⟩ := (show ObjOk X.prog X.w H s.heap a (.rng lo hi) from I.hok a _ ha)
  have hs : Builtin.Range.small lo hi 1 = true := by
    first
      | exact small_one (by omega) (by omega) (by omega) (by omega)
      | (unfold Builtin.Range.small; simp; omega)
  have hn : Builtin.Range.rangeSize lo hi 1 = ((hi - lo).toNat : Int) := by
    rw [rangeSize_one]
    split <;> omega
  refine call_list_range (n := (hi - lo).toNat) (I.ok.hd hc) hr hs hn (by omega) fun h' tk acc c kp hS hacc => ?_
  obtain ⟨hsz, hit⟩ := hacc
  have hl : acc.toList.length = (hi - lo).toNat := by rw [Array.length_toList]; exact hsz
  have hv : Vals (((List.range (hi - lo).toNat).map fun (i : Nat) => lo + (i : Int)).map V.int) acc.toList := by
    rw [List.map_map, ← hl]
    refine vals_range acc.toList _ fun j v e => ?_
    obtain ⟨t, rfl⟩ := hit j v (by simpa using e)
    exact ⟨t, by simp⟩
  have big : (2000000 : Nat) < sizeLine := by decide
  refine ⟨.ref s.heap.objs.size, _, I.laid (t' := tk) (o := .lst (((List.range (hi - lo).toNat).map fun (i : Nat) => lo + (i : Int)).map V.int)) kp (Nat.le_refl _) ⟨?_, acc.toList, c, hv, by simpa using hS⟩, rfl, q _ (I.hok.fresh (Nat.le_refl _))⟩
  rw [hv.length, hl]
  omega
/-- max of a tuple of ints -/
theorem cr_maxT (hc : X.calm = true) : CallR X (.builtin "max") (fun vs H Q => ∃ (a : Addr) (ns : List Int), vs = [V.ref a] ∧ SqT X.K H a (ns.map V.int) ∧ 0 < ns.length ∧ ∀ m, m ∈ ns → (∀ y, y ∈ ns → y ≤ m) → Q (.int m) H) := by
  intro pins s σ H vs us Q I r h
  obtain ⟨a, ns, rfl, ha, hne, q⟩ := h
  obtain ⟨u1, rfl, ra⟩ := vals1 r
  cases ra
  obtain ⟨its, rv, p, _⟩ := I.tuple ha
  have hi : IntsAre its ns := rv.ints
  obtain ⟨xs, e⟩ := hi.allInts.items
  have hn : numsOf (intItems xs).toList = ns := by rw [← e]; exact hi.numsOf
  rw [nums_intItems] at hn
  subst hn
  have hsz : 0 < xs.size := by simpa using hne
  have hT : s.heap.IsTuple a (intItems xs) := by rw [← e]; exact p
  have hlt : a < s.heap.objs.size := by obtain ⟨_, e, _⟩ := hT; exact Heap.lt_size e
  refine call_max_walk (wpAny_pyIter_tuple hT ?_)
  refine ⟨_, [_, a], [_], _, _, _, _, rfl, Walks.tuple (A := X.A.in1) (I.ok.hd hc) _ a (Nat.ne_of_lt hlt) (intItems xs), ⟨⟨_, Heap.get?_push_size _ rfl, rfl, rfl⟩, hT.push _⟩, fun c hc => ?_, by simpa [intItems] using hsz, CmpOf.ints_gt (numAt xs) (fun _ _ => intItems_at), fun v h' tk hP hk => ?_⟩
  · show c < (s.heap.push _).objs.size
    rw [Heap.size_push]
    rcases List.mem_cons.mp hc with rfl | hc
    · exact Nat.lt_succ_self _
    · rcases List.mem_cons.mp hc with rfl | hc
      · exact Nat.lt_succ_of_lt hlt
      · cases hc
  · have hold : ∀ c o, s.heap.get? c = some o → h'.get? c = some o := fun c o e => by
      refine hk c o (fun hm => ?_) (Heap.get?_push_of_some _ e)
      rcases List.mem_cons.mp hm with e1 | hm
      · exact absurd (e1 ▸ Heap.lt_size e) (Nat.lt_irrefl _)
      · cases hm
    obtain ⟨t, rfl⟩ := intItems_at hP
    obtain ⟨h1, h2⟩ := argBest_gt (numAt xs) (xs.size - 1)
    have es : (intItems xs).size - 1 = xs.size - 1 := by simp [intItems]
    rw [es]
    refine ⟨.int _, H, I.kept (t' := tk) hold, ⟨t, rfl⟩, q _ ?_ fun y hy => ?_⟩
    · rw [numAt_eq]; exact PySem.getD_mem (by rw [List.length_map, Array.length_toList]; omega)
    · obtain ⟨j, hj, rfl⟩ := mem_getD hy
      rw [List.length_map, Array.length_toList] at hj
      rw [← numAt_eq]; exact h2 j (by omega)
end
end L2

namespace Nd
open PySem L2 PyProof.Rows
section
variable {K : PySem.W.Frag} {m : Md} {E : XK} {δ : List (Option Pd)} {ta tb tc te : TE} {t u : TT} {P R S T : Pd} {t1 t2 : TS} {O : Ou}
def dl (K : PySem.W.Frag) (ds : List PyData) : Pd := ⟨fun v G => ∃ a vs, v = .ref a ∧ G a = some (.lst vs) ∧ DpAll K G vs ds, fun _ _ _ ⟨a, vs, e, h, d⟩ s => ⟨a, vs, e, s _ _ h, DpAll.mono s d⟩⟩
theorem dl_dd {ds : List PyData} {v : V} {G : Hp} (h : (dl K ds).φ v G) : Dp K G v (.list ds) := by
  obtain ⟨a, vs, rfl, h, d⟩ := h
  exact .lst (.inl (.inl h)) d
theorem EvD.l2d {ds : List PyData} (h : EvD m te δ (dl K ds)) : EvD m te δ (dd K (.list ds)) := h.to fun v G p => dl_dd p
theorem ev_lstL {ta : TA} {ds : List PyData} (h : EvA m ta δ (ds.map (dd K))) (hl : ds.length ≤ 100000) : EvD m (tLst ta) δ (dl K ds) := fun σ G H s c Q q =>
  h σ G H s c _ fun vs G1 H1 t1 p1 => by
    have d1 := all2_dp p1
    refine ⟨Nat.le_trans (by rw [d1.length]; exact hl) (by decide), fun p hp => ?_⟩
    have t2 := Go.new (o := .lst vs) (t1.cn c) hp
    exact q _ _ _ (t1.trans t2) ⟨p, vs, rfl, upd_same, DpAll.mono t2.gg d1⟩
theorem cb_listTL {ds : List PyData} : CbD m (fun xs H Q => ∃ p ys, xs = [V.ref p] ∧ (SqL K H p ys ∨ SqT K H p ys) ∧ ∀ l, H l = none → Q (.ref l) (upd H l (.lst ys))) [dd K (.tuple ds)] (dl K ds) := fun vs G H c a Q q => by
  obtain ⟨v, rfl, p⟩ := all2_one a
  cases p with
  | @tup b xs _ e d => exact ⟨b, xs, rfl, .inr (SqT.mono e c.gh), fun l hl => q _ _ _ (Go.new c hl) ⟨l, xs, rfl, upd_same, DpAll.mono (Go.new (o := .lst xs) c hl).gg d⟩⟩
theorem cb_listLL {ds : List PyData} : CbD m (fun xs H Q => ∃ p ys, xs = [V.ref p] ∧ (SqL K H p ys ∨ SqT K H p ys) ∧ ∀ l, H l = none → Q (.ref l) (upd H l (.lst ys))) [dd K (.list ds)] (dl K ds) := fun vs G H c a Q q => by
  obtain ⟨v, rfl, p⟩ := all2_one a
  cases p with
  | @lst b xs _ e d => exact ⟨b, xs, rfl, .inl (SqL.mono e c.gh), fun l hl => q _ _ _ (Go.new c hl) ⟨l, xs, rfl, upd_same, DpAll.mono (Go.new (o := .lst xs) c hl).gg d⟩⟩
theorem ev_catL {xs ys : List PyData} (ha : EvD m ta δ (dl K xs)) (hb : EvD m tb δ (dl K ys)) (hl : xs.length + ys.length ≤ 100000) : EvD m (tOp rCat ta tb) δ (dl K (xs ++ ys)) := ev_op ha hb fun x y G H c px py Q q => by
  obtain ⟨a, vs, rfl, h1, d1⟩ := px
  obtain ⟨b, ws, rfl, h2, d2⟩ := py
  refine ⟨a, b, vs, ws, rfl, rfl, c.gh _ _ h1, c.gh _ _ h2, Nat.le_trans (by rw [d1.length, d2.length]; exact hl) (by decide), fun p hp => ?_⟩
  have t2 := Go.new (o := .lst (vs ++ ws)) c hp
  exact q _ _ _ t2 ⟨p, _, rfl, upd_same, DpAll.mono t2.gg (d1.append d2)⟩
/-- list(range(n)) -/
def rngD (K : PySem.W.Frag) (lo hi : Int) : Pd := ⟨fun v G => ∃ a, v = .ref a ∧ G a = some (.rng lo hi), fun _ _ _ ⟨a, e, h⟩ s => ⟨a, e, s _ _ h⟩⟩
theorem cb_rng1 {n : Int} : CbD m (fun vs H Q => ∃ j, vs = [V.int j] ∧ ∀ p, H p = none → Q (.ref p) (upd H p (.rng 0 j))) [di K n] (rngD K 0 n) := fun vs G H c a Q q => by
  obtain ⟨v, rfl, p⟩ := all2_one a
  cases p
  exact ⟨n, rfl, fun p hp => q _ _ _ (Go.new c hp) ⟨p, rfl, upd_same⟩⟩
theorem cb_listRng {lo hi : Int} (h1 : -(2 ^ 40) ≤ lo) (h2 : lo ≤ 2 ^ 40) (h3 : -(2 ^ 40) ≤ hi) (h4 : hi ≤ 2 ^ 40) (h5 : hi - lo ≤ 1000000) :
    CbD m (fun vs H Q => ∃ a lo hi, vs = [V.ref a] ∧ H a = some (.rng lo hi) ∧ -(2 ^ 40) ≤ lo ∧ lo ≤ 2 ^ 40 ∧ -(2 ^ 40) ≤ hi ∧ hi ≤ 2 ^ 40 ∧ (hi - lo) ≤ 1000000 ∧
      ∀ p, H p = none → Q (.ref p) (upd H p (.lst (((List.range (hi - lo).toNat).map fun (i : Nat) => lo + (i : Int)).map V.int)))) [rngD K lo hi] (dl K (((List.range (hi - lo).toNat).map fun (i : Nat) => lo + (i : Int)).map PyData.int)) := fun vs G H c a Q q => by
  obtain ⟨v, rfl, b, rfl, hb⟩ := all2_one a
  refine ⟨b, lo, hi, rfl, c.gh _ _ hb, h1, h2, h3, h4, h5, fun p hp => q _ _ _ (Go.new c hp) ⟨p, _, rfl, upd_same, DpAll.ofInts _⟩⟩
theorem cb_maxT {ns : List Int} {k : Int} (hk : k ∈ ns) (hm : ∀ y ∈ ns, y ≤ k) : CbD m (fun vs H Q => ∃ (a : Addr) (ns : List Int), vs = [V.ref a] ∧ SqT K H a (ns.map V.int) ∧ 0 < ns.length ∧ ∀ m, m ∈ ns → (∀ y, y ∈ ns → y ≤ m) → Q (.int m) H) [dd K (.tuple (ns.map PyData.int))] (di K k) := fun vs G H c a Q q => by
  obtain ⟨v, rfl, p⟩ := all2_one a
  cases p with
  | @tup b xs _ e d =>
    cases d.ints
    refine ⟨b, ns, rfl, SqT.mono e c.gh, List.length_pos_iff.mpr (fun z => by rw [z] at hk; cases hk), fun k' h1 h2 => q _ G H (Go.refl c) ?_⟩
    have : k' = k := Int.le_antisymm (hm k' h1) (h2 k hk)
    rw [this]; exact .int _
def exP {α : Type} (C : α → Prop) (Q : α → Pd) : Pd := ⟨fun v G => ∃ x, C x ∧ (Q x).φ v G, fun _ _ _ ⟨x, h, p⟩ s => ⟨x, h, (Q x).mono _ _ _ p s⟩⟩
/-- an int of which C holds -/
def exI (K : PySem.W.Frag) (C : Int → Prop) : Pd := exP C (di K)
theorem bl_setE {α : Type} {C : α → Prop} {Q : α → Pd} {i : Nat} (h : EvD m te δ (exP C Q)) (k : ∀ x, C x → Bl m E t2 (δ.set i (some (Q x))) O) : Bl m E (tSeq (tAsg te (gName i)) t2) δ O := fun σ G H D s c kx =>
  h σ G H s c _ fun v G1 H1 g ⟨x, hx, p⟩ => k x hx _ G1 H1 D ((s.mono g.gg).set p) (g.cn c) (kx.go g)
theorem od_exR {α : Type} {C : α → Prop} {Q S : α → Pd} {r : R2} (h : ∀ x, C x → OpD m r P (Q x) (S x)) : OpD m r P (exP C Q) (exP C S) := fun x y G H c px ⟨z, hz, py⟩ Q q =>
  h z hz x y G H c px py Q fun v G' H' g p => q v G' H' g ⟨z, hz, p⟩
theorem ev_addE {i : Int} {C : Int → Prop} (ha : EvD m ta δ (di K i)) (hb : EvD m tb δ (exI K C)) : EvD m (tOp (rI0 fun i j => .int (i + j)) ta tb) δ (exI K fun d => ∃ e, C e ∧ d = i + e) :=
  (ev_op (S := exP C fun e => di K (i + e)) ha hb (od_exR fun e _ => od_I0 (g := fun i j => .int (i + j)) fun _ => .int _)).to fun v G ⟨e, he, p⟩ => ⟨i + e, ⟨e, he, rfl⟩, p⟩
/-- xs[drawn] -/
theorem ev_ixE {xs : List PyData} {n : Int} (ha : EvD m ta δ (dd K (.list xs))) (hb : EvD m tb δ (exI K fun d => 0 ≤ d ∧ d < n)) (hn : n = xs.length) : EvD m (tOp (rIxL K) ta tb) δ (exP (fun d => d ∈ xs) (dd K)) := ev_op ha hb fun x y G H c px ⟨k, hk, py⟩ Q q => by
  cases py
  cases px with
  | @lst a vs _ e1 d1 =>
    have hlt : k.toNat < xs.length := by omega
    have h : L2.atI xs k = some xs[k.toNat] := by
      unfold L2.atI ixN
      rw [if_pos hk.1, if_pos (by omega)]
      simp [hlt]
    obtain ⟨v, e, p⟩ := dpa_atI d1 h
    exact ⟨a, vs, k, v, rfl, rfl, SqL.mono e1 c.gh, e, q _ G H (Go.refl c) ⟨_, List.getElem_mem hlt, p⟩⟩
theorem ev_callE {F : Md → List Pd → Oc → Prop} {ta : TA} {Ps : List Pd} (h : EvA m ta δ Ps) (hf : ∀ vs G, All2 G vs Ps → ∃ Ps' S', All2 G vs Ps' ∧ F m Ps' (.ret S') ∧ ∀ v G', S'.φ v G' → S.φ v G') : EvD m (tCall (spF F) [] E ta) δ S := fun σ G H s c Q q =>
  h σ G H s c _ fun vs G1 H1 t1 p1 => by
    rw [List.append_nil]
    obtain ⟨Ps', S', a, f, k⟩ := hf vs G1 p1
    exact ⟨m, G1, Ps', .ret S', f, t1.cn c, a, fun v G2 H2 t2 p2 => q v G2 H2 (t1.trans t2) (k v G2 p2)⟩
theorem ev_makeE {F : Md → List Pd → Oi → Prop} {C : Addr} {tA : TA} {Ps : List Pd} (ha : EvA m tA δ Ps) (hf : ∀ vs G, All2 G vs Ps → ∃ Ps' ps, All2 G vs Ps' ∧ F m Ps' (.ret ps) ∧ ∀ v G', (obj C ps).φ v G' → S.φ v G') : EvD m (tMake C (spI C F) [] E tA) δ S := fun σ G H s c Q q =>
  ha σ G H s c _ fun vs G1 H1 g p x dx hx hdx hne => by
    obtain ⟨Ps', ps, a, f, k⟩ := hf vs G1 p
    exact mk_raw (g.cn c) a f (fun v G' H' g' p' => q v G' H' (g.trans g') (k v G' p')) x dx hx hdx hne
def StrI (H : Hp) (st cl : Addr) : Prop := ∃ (cells : List Int) (i big seed step : Int), H st = some (.lst [.ref cl, .int i, .int big, .int seed, .int step]) ∧ H cl = some (.lst (cells.map V.int)) ∧ 0 ≤ i ∧ 0 ≤ big ∧ 0 ≤ seed ∧ seed < 2147483647
/-- a mode in which the stream at st (its cells at cl) may be drawn from -/
structure Dr (m : Md) (st cl : Addr) : Prop where
  chg : m.chg st
  ne : cl ≠ st
  inv : ∀ H, m.inv H → StrI H st cl
  back : ∀ H H', m.inv H → (∀ a o, a ≠ st → H a = some o → H' a = some o) → StrI H' st cl → m.inv H'
def strM (st cl : Addr) (h : cl ≠ st) : Md where
  chg := fun a => a = st
  dep := fun a => a = st ∨ a = cl
  inv := fun H => StrI H st cl
  sub := fun a h => .inl h
  mono := fun H H' ⟨cells, i, b, s, t, h1, h2, h3⟩ k => ⟨cells, i, b, s, t, k _ _ (.inl rfl) h1, k _ _ (.inr rfl) h2, h3⟩
  has := fun H a ⟨cells, i, b, s, t, h1, h2, h3⟩ d => d.elim (fun z => by subst z; exact ⟨_, h1⟩) fun z => by subst z; exact ⟨_, h2⟩
theorem dr_str {st cl : Addr} (h : cl ≠ st) : Dr (strM st cl h) st cl := ⟨rfl, h, fun _ x => x, fun _ _ _ _ x => x⟩
theorem Dr.hold {st cl D : Addr} {o : HO} (d : Dr m st cl) (h : ¬ m.dep D) : Dr (m.hold D o) st cl :=
  ⟨.inl d.chg, d.ne, fun H x => d.inv H x.1, fun H H' x k s => ⟨d.back H H' x.1 k s, k D o (fun z => h (by rw [z]; exact m.sub _ d.chg)) x.2⟩⟩
/-- the law's own mix -/
def mix1 (n s : Int) : Int := (n * 48271 + 7919 * s + 30103) % 2147483647
def mix2 (n : Int) : Int := n * (n / 1009 + 69621) % 2147483647
def mix3 (n : Int) : Int := n * (n / 2003 + 40692) % 2147483399
def mixI (n s : Int) : Int := mix3 (mix2 (mix1 n s))
def FMixed (K : PySem.W.Frag) : Md → List Pd → Oc → Prop := fun _ Ps O => ∃ n s, Ps = [di K n, di K s] ∧ O = .ret (di K (mixI n s))
def FDraw (K : PySem.W.Frag) : Md → List Pd → Oc → Prop := fun m Ps O => ∃ st cl many, Dr m st cl ∧ Ps = [vv (.ref st), di K many] ∧ 0 < many ∧ many < 1000000000 ∧ O = .ret (exI K fun d => 0 ≤ d ∧ d < many)
theorem ev_draw {tA : TA} {st cl : Addr} {many : Int} (hd : Dr m st cl) (ha : EvA m tA δ [vv (.ref st), di K many]) (h1 : 0 < many) (h2 : many < 1000000000) : EvD m (tCall (spF (FDraw K)) [] E tA) δ (exI K fun d => 0 ≤ d ∧ d < many) :=
  ev_call ha ⟨st, cl, many, hd, rfl, h1, h2, rfl⟩
end
end Nd

namespace L2
open PySem PySem.Spec PyProof.Rows
section
variable {X : Cx} {K : PySem.W.Frag}
theorem ix_listK (h : X.K = K) : IxR X (rIxL K) := h ▸ ix_list
theorem ix_tupK (h : X.K = K) : IxR X (rIxT K) := h ▸ ix_tup
theorem sl_listK (h : X.K = K) : SlR X (rSlL K) := h ▸ sl_list
theorem sl_tupK (h : X.K = K) : SlR X (rSlA K) := h ▸ sl_tupA
theorem op_catK (h : X.K = K) : OpR X (binaryOp .Add) (rCatA K) := h ▸ op_catA
theorem op_eqDK (h : X.K = K) (hu : X.A.units + 64 < cLine) : OpR X (compareOp .Eq) (rEqD K) := h ▸ op_eqD hu
theorem op_neDK (h : X.K = K) (hu : X.A.units + 64 < cLine) : OpR X (compareOp .NotEq) (rNeD K) := h ▸ op_neD hu
theorem op_inK (h : X.K = K) : OpR X (compareOp .In) (rIn K false) := h ▸ op_in_seq
theorem op_notInK (h : X.K = K) : OpR X (compareOp .NotIn) (rIn K true) := h ▸ op_notIn_seq
theorem call_lenK (h : X.K = K) : CallR X (.builtin "len") (fun xs H Q => ∃ p ys, xs = [.ref p] ∧ (SqL K H p ys ∨ SqT K H p ys) ∧ Q (.int ys.length) H) := h ▸ call_len_seq
theorem call_listK (h : X.K = K) : CallR X (.type "list") (fun xs H Q => ∃ p ys, xs = [.ref p] ∧ (SqL K H p ys ∨ SqT K H p ys) ∧ ∀ l, H l = none → Q (.ref l) (upd H l (.lst ys))) := h ▸ call_list_of
theorem call_tupleK (h : X.K = K) : CallR X (.type "tuple") (fun xs H Q => ∃ p ys, xs = [.ref p] ∧ ((SqL K H p ys ∧ ∀ l, H l = none → Q (.ref l) (upd H l (.tup ys))) ∨ (SqT K H p ys ∧ Q (.ref p) H))) := h ▸ call_tuple_of
theorem call_isiK' (h : X.K = K) : CallR X (.builtin "isinstance") (rIsi K) := h ▸ call_isi
theorem cr_maxTK (h : X.K = K) (hc : X.calm = true) : CallR X (.builtin "max") (fun vs H Q => ∃ (a : Addr) (ns : List Int), vs = [V.ref a] ∧ SqT K H a (ns.map V.int) ∧ 0 < ns.length ∧ ∀ m, m ∈ ns → (∀ y, y ∈ ns → y ≤ m) → Q (.int m) H) := h ▸ cr_maxT hc
theorem cr_minK' (h : X.K = K) (hc : X.calm = true) : CallR X (.builtin "min") (rMin K) := h ▸ cr_min hc
theorem cr_maxK' (h : X.K = K) (hc : X.calm = true) : CallR X (.builtin "max") (rMax K) := h ▸ cr_max hc
theorem cr_anyK (h : X.K = K) (hc : X.calm = true) : CallR X (.builtin "any") (rAny K) := h ▸ cr_any hc
theorem cr_allK (h : X.K = K) (hc : X.calm = true) : CallR X (.builtin "all") (rAll K) := h ▸ cr_all hc
theorem cr_sumK (h : X.K = K) (hc : X.calm = true) : CallR X (.builtin "sum") (rSum K) := h ▸ cr_sum hc
theorem pe_fldK {e : Expr} {f : Str} {pos : Pos} {ta : TE} (h : X.K = K) (he : PE X e ta) (hb : attributeBase e f X.env (eval e X.env) = eval e X.env) : PE X (.Attribute e f pos) (tFld K ta f) := h ▸ pe_fld he hb
theorem ps_fldK {o value : Expr} {f : Str} {pos pos' : Pos} {ta tv : TE} (h : X.K = K) (ha : PE X o ta) (hv : PE X value tv) (hs : swapsWith value (some (.Attribute o f pos')) pos.line X.env = pure false) : PS X (.Assign [.Attribute o f pos'] value pos) (sFld K ta tv f) := h ▸ ps_fld ha hv hs
theorem pi_listK {tg l : Expr} {tl : TE} (h : X.K = K) (hl : PE X l tl) : PI X tg l (iList K tl) := h ▸ pi_list hl
theorem pi_tupK {tg l : Expr} {tl : TE} (h : X.K = K) (hl : PE X l tl) : PI X tg l (iTup K tl) := h ▸ pi_tup hl
theorem pi_zipK {e e2 : Expr} {ta : TA} {p pos tpos : Pos} {elts : List Expr} {kk : Nat} (h : X.K = K) (hg : Gl X "zip") (hm : X.mg "zip" = none) (ha : PA X [e, e2] ta)
    (hs : starEach [e, e2] X.env = (false, eval e X.env) :: starEach [e2] X.env := by rfl) (hpl : (backTo pos (starEach [e2] X.env)).any (·.1) = false := by rfl) :
    PI X (.Tuple elts kk tpos) (.Call (.Name "zip" p) [e, e2] [] pos) (RZ.iZipA K ta) := h ▸ RZ.pi_zipA hg hm ha hs hpl
theorem pe_revLK {e : Expr} {te : TE} {k : Nat} {p1 p2 p3 pos : Pos} (h : X.K = K) (he : PE X e te) : PE X (.Subscript e (.Slice none none (some (.UnaryOp .USub (.Constant (.int 1) k p1) p2)) p3) pos) (tRevL K te) := h ▸ pe_revL he
end
end L2
namespace Nd
open PySem L2 PyProof.Rows
/-- a def of the text keeps a promise, and is called by its name and arguments alone -/
def Dok (P : Program) (w : World) (K : PySem.W.Frag) (mg : Str → Option Value) (base : Heap) (CX : CXT) (k : Nat) (f : Addr) (ps : List Str) (sp : Sp) : Prop :=
  ∃ fd, FnOk P w K mg base CX k f fd ps sp ∧ Binds K fd ps [] ∧ PySem.W.keepIn K (.ref f) = true
end Nd
namespace Nd
open PySem L2 PyProof.Rows
theorem WkD.to {m : Md} {wi : TI} {δ : List (Option Pd)} {n : Nat} {Y Y' : Nat → Pd} (h : WkD m wi δ n Y) (k : ∀ i, i < n → ∀ v G, (Y i).φ v G → (Y' i).φ v G) : WkD m wi δ n Y' := fun σ G H s c Q q =>
  h σ G H s c Q fun J G1 H1 g ⟨Gd, Yl, W, hG, hY⟩ => q J G1 H1 g ⟨Gd, Yl, W, hG, fun m' i H' x H'' G' hi s' c' y => let ⟨G'', g'', p⟩ := hY m' i H' x H'' G' hi s' c' y; ⟨G'', g'', k i hi x G'' p⟩⟩
end Nd

namespace PySem
namespace OweX
open PySem.W PySem.Calls PyProof.Rows PySem.HandSPX
def iA (p1 p2 p3 : Pos) : Arguments := { posonlyargs := [], args := [{ arg := "self", annotation := none, pos := p1 }, { arg := "what", annotation := none, pos := p2 }], vararg := none, kwonlyargs := [], kw_defaults := [], kwarg := none, defaults := [.Constant .none 0 p3] }
def iB (a0 a1 a2 a3 a4 a5 q1 q2 q3 q4 : Pos) : List Stmt :=
  [.Expr (.Call (.Attribute (.Call (.Name "super" a0) [] [] a1) "__init__" a2) [.Name "what" a3] [] a4) a5, .Assign [.Attribute (.Name "self" q1) "what" q2] (.Name "what" q3) q4]
def iS : Scope := { kind := .function, names := [(PySem.Str.ofString "self", .local), (PySem.Str.ofString "what", .local), (PySem.Str.ofString "__class__", .free), (PySem.Str.ofString "super", .globalImplicit)], isGenerator := false, isCoroutine := false, more := [] }
/-- what the written part says of OweError, at D, and of its __init__, at fI -/
structure Txt (prog : Program) (K : Frag) (D fI : Addr) : Prop where
  fn : ∃ (oc : Value) (od : Option Addr) (dT : Addr) (kV doc pm : Value) (an : Option Addr) (ct : Value) (osl : Array (Option Value)) (cda cc : Addr) (p1 p2 p3 a0 a1 a2 a3 a4 a5 q1 q2 q3 q4 : Pos),
    K.lookup fI = some ⟨oc, od, .func (ksFn "__init__" "OweError.__init__" (iA p1 p2 p3) (iB a0 a1 a2 a3 a4 a5 q1 q2 q3 q4) iS (.ref dT) kV doc pm an (.ref cda) ct cc), osl⟩ ∧ codeIn K (.ref cda) "OweError.__init__" = true ∧
    (∃ (ccl : Value) (cdd : Option Addr) (vs : Array Value) (ccs : Array (Option Value)) (file : Str) (tf : Tok), K.lookup cda = some ⟨ccl, cdd, .fields vs, ccs⟩ ∧ vs[2]? = some (.str file tf) ∧ ((prog.main.file : Str) == file) = true) ∧
    (∃ (cl : Value) (cld : Option Addr) (csl : Array (Option Value)), K.lookup cc = some ⟨cl, cld, .cell (some (.ref D)), csl⟩) ∧
    (∃ (o : Obj) (n : Nat), K.lookup dT = some o ∧ o.data = .seq #[.none] n) ∧ (a2.endLine == a4.line) = true
  tI : typeIn K (.ref fI) = some (.type "function")
  clD : ∃ cd, clsIn K D = some cd
  third : nsIn K cStatics "thirdparty.any" = some none
  top : (prog.main.scope.names.lookup ("super" : Str)).isSome = false
/-- .. and of one of its heirs (or of itself), at C -/
structure Cls (K : Frag) (D fI C : Addr) : Prop where
  cls : ∃ nm q N bs bm sn sub ab col dd k0 k1 k2 k3 k5, K.lookup C = some (excClassObj nm q C N bs bm true sn sub ab col dd k0 k1 k2 k3 k5 "ValueError.__new__") ∧ refsVE bm = true
  sa : findIn K (.ref C) "__setattr__" = some (some (.builtin "object.__setattr__"))
  ga : findIn K (.ref C) "__getattribute__" = some (some (.builtin "BaseException.__getattribute__"))
  gg : findIn K (.ref C) "__getattr__" = some none
  noN : findIn K (.ref C) "what" = some none
  iC : findIn K (.ref C) "__init__" = some (some (.ref fI))
  kC : keepIn K (.ref C) = true
  exC : subIn K (.ref C) (.type "BaseException") = some true
  vC : subIn K (.ref C) (.type "ValueError") = some true
  tyC : typeIn K (.ref C) = some (.type "type")
  hdC : hasDictIn K C = true
  sD : mroIn K C (.ref D) = some true
  sI : ks_superIn K C D "__init__" = some (some (.builtin "ValueError.__init__"))
theorem he_super {a0 a1 a2 a3 a4 : Pos} {env : Env} (hl : (a2.endLine == a4.line) = true) : eval (.Call (.Attribute (.Call (.Name "super" a0) [] [] a1) "__init__" a2) [.Name "what" a3] [] a4) env = (do
      let ov ← attributeBase (.Call (.Name "super" a0) [] [] a1) "__init__" env (eval (.Call (.Name "super" a0) [] [] a1) env)
      standAt a2.atName
      let (f, first) ← holding [ov] (getMethod ov "__init__" (do return (← importBound (.Call (.Name "super" a0) [] [] a1) env).getD true))
      callWith a4 f first (backTo a4 (starEach [.Name "what" a3] env)) []) := by
  have e : methodCallPos true (.Call (.Name "super" a0) [] [] a1) env a2 a4 = pure a4 := by
    unfold methodCallPos
    rw [hl]
    rfl
  have e2 : eval (.Call (.Attribute (.Call (.Name "super" a0) [] [] a1) "__init__" a2) [.Name "what" a3] [] a4) env = (do
      let ov ← attributeBase (.Call (.Name "super" a0) [] [] a1) "__init__" env (eval (.Call (.Name "super" a0) [] [] a1) env)
      standAt a2.atName
      let (f, first) ← holding [ov] (getMethod ov "__init__" (do return (← importBound (.Call (.Name "super" a0) [] [] a1) env).getD true))
      let callPos ← methodCallPos true (.Call (.Name "super" a0) [] [] a1) env a2 a4
      callWith callPos f first (backTo a4 (starEach [.Name "what" a3] env)) []) := by rfl
  rw [e2, e]
  simp only [pure_bind]
theorem one_size (v : Value) : [v].length ≤ sizeLine := by
  rw [sizeLine_eq]
  exact (by decide : 1 ≤ 16777216)
theorem kept_but {K : Frag} {h h' : Heap} {x : Addr} (X : K.In h) (hx : K.lookup x = none) (k : ∀ b o, b ≠ x → h.get? b = some o → h'.get? b = some o) : K.In h' := fun a o e =>
  k a o (fun z => by rw [z, hx] at e; cases e) (X a o e)
/-- what __init__ leaves of a fresh exception at x -/
structure InitEnd (h h' : Heap) (x C dx : Addr) (v : Value) : Prop where
  keep : ∀ b o, b ≠ x → h.get? b = some o → h'.get? b = some o
  obj : ∃ t1, h'.get? x = some { cls := .ref C, dict := some dx, data := .fields #[.ref t1, .none, .none, .none, .bool false, .none] }
  dbig : h.objs.size ≤ dx
  dne : dx ≠ x
  ns : h'.Ns1 dx (fun y => if y = "what" then some v else none)
/-- a made error -/
structure OwnMade (h h' : Heap) (e C d : Addr) (v : Value) : Prop where
  keep : ∀ b o, h.get? b = some o → h'.get? b = some o
  new : h.objs.size ≤ e
  obj : ∃ t1, h'.get? e = some { cls := .ref C, dict := some d, data := .fields #[.ref t1, .none, .none, .none, .bool false, .none] }
  dbig : h.objs.size ≤ d
  dne : d ≠ e
  ns : h'.Ns1 d (fun y => if y = "what" then some v else none)
section
variable {prog : Program} {w : World} {A : Around} {E : Value → Shared → Prop} {R : Result → Shared → Prop} {s : Shared} {K : Frag} {mg : Str → Option Value} {D C fI : Addr} {base : Heap}
theorem exc_super_init {u x C t0 : Addr} {rest : List Value} {h : Heap} {g : Array GenState} {d : Drawn} {tk : Nat} {os : OsState} {Q : Value → Shared → Prop} {nm q : Str} {N : Addr} {bs bm : List Value} {hdct : Bool} {sn : List Str} {sub : List Value} {ab : Bool} {col : Option Bool} {dd : Option Addr} {k0 k1 k2 k3 k5 : Option Value}
    (hC : h.get? C = some (excClassObj nm q C N bs bm hdct sn sub ab col dd k0 k1 k2 k3 k5 "ValueError.__new__")) (he : h.get? x = some (excO C t0)) (hu : h.get? u = some (kxs_mw "ValueError.__init__" x)) (hrest : rest.length ≤ sizeLine)
    (hq : ∀ h' t1, (∀ b o, b ≠ x → h.get? b = some o → h'.get? b = some o) → h'.get? x = some (excO C t1) → Q .none ⟨h', g, d, tk, os⟩) :
    wpAny (model prog w) A (call (.ref u) rest) Q E ⟨h, g, d, tk, os⟩ := by
  refine wpAny_call (codeAny_of_tree ?_)
  show wpAny _ A.in1 (callAny (.ref u) ⟨rest, []⟩) _ _ _
  simp only [callAny]
  refine wpAny_bind (wpAny_load hu ?_)
  simp only [kxs_mw, show (Value.type "method-wrapper" == Value.type "method" || Value.type "method-wrapper" == Value.type "builtin_function_or_method" || Value.type "method-wrapper" == Value.type "method-wrapper") = true by decide, if_true]
  refine KFB.if_so (by decide) ?_
  refine wpAny_bind (check_bound_init F.excBase_ValueError.toExcCallFacts hC he rfl ?_)
  refine wpAny_bind (wpAny_pure (wpAny_pure ?_))
  refine ⟨plainId_quiet F.excBase_ValueError.init.plain _, codeAny_builtin F.excBase_ValueError.initEntry ?_⟩
  exact exc_init_tree (cls := .ref C) (t0 := t0) (dv := none) (c2 := .none) (c3 := .none) (b4 := .bool false) he hrest fun h' k e' t' => hq h' _ k e'
theorem owe_init (T : Txt prog K D fI) (U : Cls K D fI C) (M : L2.Mod K mg base) (hsup : mg "super" = none) {x t0 : Addr} {v : Value} {args : Args} (kb : ∀ b o, base.get? b = some o → s.heap.get? b = some o)
    (hx : s.heap.get? x = some (excO C t0)) (hnx : base.get? x = none) (hroom : A.depth < recursionLimit)
    (hb : ∀ fd, (∃ (dT : Addr) (kV doc pm : Value) (an : Option Addr) (ct : Value) (cda cc : Addr) (p1 p2 p3 a0 a1 a2 a3 a4 a5 q1 q2 q3 q4 : Pos) (o : Obj) (n : Nat), fd = ksFn "__init__" "OweError.__init__" (iA p1 p2 p3) (iB a0 a1 a2 a3 a4 a5 q1 q2 q3 q4) iS (.ref dT) kV doc pm an (.ref cda) ct cc ∧ K.lookup dT = some o ∧ o.data = .seq #[.none] n) →
      BindsTo s fd args [("self", .ref x), ("what", v)])
    (hq : ∀ h' tk dx, InitEnd s.heap h' x C dx v → R (.ok (.ret .none)) { s with heap := h', toks := tk }) :
    codeAny (model prog w) A (.call (.ref fI) args) R s := by
  obtain ⟨oc, od, dT, kV, doc, pm, an, ct, osl, cda, cc, p1, p2, p3, a0, a1, a2, a3, a4, a5, q1, q2, q3, q4, ho, hcd, ⟨ccl, cdd, vs, ccs, file, tf, hcode, hvs, hfile⟩, ⟨cl, cld, csl, hcell⟩, ⟨oT, n, lT, dTt⟩, hl⟩ := T.fn
  obtain ⟨nm, q, N, bs, bm, sn, sub, ab, col, dd, k0, k1, k2, k3, k5, hC, hbm⟩ := U.cls
  have X : K.In s.heap := M.kin.keeps kb
  have hcl : clsIn K C = some { name := nm, bases := bs, mro := .ref C :: bm, ns := N, qualname := q, hasDict := true, slotNames := sn, subclasses := sub, abstract := ab, collection := col, hasDel := false } := by unfold clsIn; rw [hC] <;> rfl
  have hbind := hb _ ⟨dT, kV, doc, pm, an, ct, cda, cc, p1, p2, p3, a0, a1, a2, a3, a4, a5, q1, q2, q3, q4, oT, n, rfl, lT, dTt⟩
  obtain ⟨mb, hmb1, hmb2⟩ := M.blt
  obtain ⟨cdD, hD⟩ := T.clD
  refine ks_codeAny_call_defAt (fd := ksFn "__init__" "OweError.__init__" (iA p1 p2 p3) (iB a0 a1 a2 a3 a4 a5 q1 q2 q3 q4) iS (.ref dT) kV doc pm an (.ref cda) ct cc) (body := iB a0 a1 a2 a3 a4 a5 q1 q2 q3 q4) hroom (X _ _ ho) rfl (M.nolimit.keeps kb) (codeRec_of X hcd) rfl hbind (show ∀ x ∈ iS.names, x.2 ≠ .cell by decide) (fun y hy => by rcases List.mem_cons.mp hy with e | e; (rw [e]; rfl); (rcases List.mem_cons.mp e with e | e; (rw [e]; rfl); cases e)) (fun h₁ hn k => ?_)
  have kb₁ : ∀ b o, base.get? b = some o → h₁.get? b = some o := fun b o e => k b o (kb b o e)
  have X₁ : K.In h₁ := M.kin.keeps kb₁
  have hx₁ := k _ _ hx
  have hxL : s.heap.objs.size ≠ x := Nat.ne_of_gt (Heap.lt_size hx)
  have hnK : K.lookup x = none := by
    cases e : K.lookup x with
    | none => rfl
    | some o => rw [M.kin _ _ e] at hnx; cases hnx
  have I₁ : InstAt h₁ x (excO C t0) C none := ⟨hx₁, rfl, rfl, trivial⟩
  obtain ⟨oD, hD1, hD2⟩ : ∃ oD, h₁.get? D = some oD ∧ oD.data = .cls cdD := by
    unfold clsIn at hD
    split at hD
    · rename_i c d cd' sl ho
      cases hD
      exact ⟨_, X₁ _ _ ho, rfl⟩
    · cases hD
  obtain ⟨hp, g, d, t, os⟩ := s
  show wpAt _ _ _ (execs (iB a0 a1 a2 a3 a4 a5 q1 q2 q3 q4) (ksEnv "OweError.__init__" iS hp.objs.size fI (.ref cda) cc)) _ _ _
  refine ks_wpAt_execs_cons (ks_wpAt_Expr_any (ks_wpAt_MethodCall (pl := (do return (← importBound (.Call (.Name "super" a0) [] [] a1) (ksEnv "OweError.__init__" iS hp.objs.size fI (.ref cda) cc)).getD true)) ?_ (he_super hl)))
  refine ks_wpAt_super_base (env := ksEnv "OweError.__init__" iS hp.objs.size fI (.ref cda) cc) (ar := { arg := "self", annotation := none, pos := p1 }) rfl rfl (by decide) rfl (X₁ _ _ ho) rfl rfl rfl (X₁ _ _ hcode) rfl hvs hfile T.top ?_
  refine ks_loadName_global rfl rfl (loadGlobal_builtin (env := ksEnv "OweError.__init__" iS hp.objs.size fI (.ref cda) cc) (M.glob.keeps kb₁) hsup (hmb1.keeps kb₁) ((hmb2 _ (by decide)).trans (by kernel_rfl : bootBuiltins "super" = some (.type "super"))) ⟨rfl, ?_⟩)
  refine wpAny_loadName_free rfl rfl rfl ⟨_, X₁ _ _ hcell, rfl⟩ ?_
  refine wpAny_loadName_local rfl rfl hn (by first | rfl | kernel_rfl) ?_
  refine ks_wpAny_isType_cls hD1 hD2 ⟨rfl, ?_⟩
  refine ks_wpAny_call_super hD1 hD2 I₁.at_ I₁.cls (fun c e => by cases e) (looks_mroIn X₁ U.sD) (fun h₂ e₂ k₂ => ?_)
  have kb₂ : ∀ b o, base.get? b = some o → h₂.get? b = some o := fun b o e => k₂ b o (kb₁ b o e)
  have X₂ : K.In h₂ := M.kin.keeps kb₂
  have hx₂ := k₂ _ _ hx₁
  have I₂ : InstAt h₂ x (excO C t0) C none := ⟨hx₂, rfl, rfl, trivial⟩
  have hxC : x ≠ C := ks_ne X₂ I₂ hcl
  have hm := U.sI
  unfold ks_superIn at hm
  rw [hcl] at hm
  refine kxs_getMethod (pl := _) kxs_ValueError e₂ (looks_opaque X₂ T.third) (fun A Q E s k q => wpAny_bind ((looks_clsIn X₂ hcl) A _ E s k (wpAny_pure q))) rfl X₂ hm (I₂.type.andThen (looks_subIn X₂ U.vC)) hxC (by decide) ?_
  have hs₂ : h₂.objs.size ≠ x := Nat.ne_of_gt (Heap.lt_size hx₂)
  have hu : (h₂.push (kxs_mw "ValueError.__init__" x)).get? h₂.objs.size = some (kxs_mw "ValueError.__init__" x) := Heap.get?_push_at rfl rfl
  have k₃ : ∀ b o, h₂.get? b = some o → (h₂.push (kxs_mw "ValueError.__init__" x)).get? b = some o := fun b o e => Heap.get?_push_of_some _ e
  have hn₂ : (h₂.push (kxs_mw "ValueError.__init__" x)).Ns hp.objs.size (fun y => [(("self" : Str), Value.ref x), ("what", v)].reverse.lookup y) := by
    obtain ⟨oL, es, ep, hL, r⟩ := hn
    exact ⟨oL, es, ep, k₃ _ _ (k₂ _ _ hL), r⟩
  refine kxs_callWith (i := "ValueError.__init__") (x := x) (by rfl) ?_
  refine evalArgs_plain (spliced_cons ?_)
  refine ESX.ldL (v := v) hn₂ (by first | rfl | with_unfolding_all rfl | kernel_rfl) (spliced_nil ⟨hu, ?_⟩)
  refine exc_super_init (X₂.keeps k₃ _ _ hC) (k₃ _ _ hx₂) hu (one_size v) fun h₄ t1 k₄ hx₄ => ?_
  -- self.what = what
  show wpAt _ _ _ (execs [Stmt.Assign [.Attribute (.Name "self" q1) "what" q2] (.Name "what" q3) q4] (ksEnv "OweError.__init__" iS hp.objs.size fI (.ref cda) cc)) _ _ _
  have hn₄ : h₄.Ns hp.objs.size (fun y => [(("self" : Str), Value.ref x), ("what", v)].reverse.lookup y) := by
    obtain ⟨oL, es, ep, hL, r⟩ := hn₂
    exact ⟨oL, es, ep, k₄ _ _ hxL hL, r⟩
  have X₄ : K.In h₄ := kept_but (X₂.keeps k₃) hnK k₄
  refine ks_wpAt_execs_cons (ks_wpAt_Assign_Attr ?_)
  refine wpAt_of_wpAny (ESX.ldL (v := v) hn₄ (by first | rfl | with_unfolding_all rfl | kernel_rfl) (ESX.ldL (v := .ref x) hn₄ (by first | rfl | with_unfolding_all rfl | kernel_rfl) ?_))
  refine set_plain X₄ (ox := excO C t1) (od := none) ⟨hx₄, rfl, rfl, trivial⟩ U.sa ?_
  refine exc_osa X₄ hx₄ hcl (show refsVE (.ref C :: bm) = true from hbm) rfl U.noN (fun h₅ tk₅ dx k₅ dn dne hx₅ hn₅ => ?_)
  show wpAt _ _ _ (execs [] _) _ _ _
  have z : hp.objs.size < h₄.objs.size := hn₄.lt
  refine wpAt_of_wpAny (wpAny_execs_nil (hq h₅ tk₅ dx ⟨fun b o hb e => k₅ b o hb (k₄ b o hb (k₃ b o (k₂ b o (k b o e)))), ⟨_, hx₅⟩, Nat.le_of_lt (Nat.lt_of_lt_of_le z dn), dne, hn₅⟩))
theorem owe_made (T : Txt prog K D fI) (U : Cls K D fI C) (M : L2.Mod K mg base) (hsup : mg "super" = none) {v : Value} (kb : ∀ b o, base.get? b = some o → s.heap.get? b = some o) (hroom : A.depth + 1 < recursionLimit)
    (hq : ∀ h' tk e d, OwnMade s.heap h' e C d v → R (.ok (.ret (.ref e))) { s with heap := h', toks := tk }) :
    codeAny (model prog w) A (.call (.ref C) ⟨[v], []⟩) R s := by
  obtain ⟨nm, q, N, bs, bm, sn, sub, ab, col, dd, k0, k1, k2, k3, k5, hC, hbm⟩ := U.cls
  obtain ⟨hp, g, dr, tk, os⟩ := s
  have X : K.In hp := M.kin.keeps kb
  have k : ∀ b o, hp.get? b = some o → ((hp.push (kdv_tup [v])).push (excO C hp.objs.size)).get? b = some o := fun b o e => Heap.get?_push_of_some _ (Heap.get?_push_of_some _ e)
  have hget : ((hp.push (kdv_tup [v])).push (excO C hp.objs.size)).get? (hp.objs.size + 1) = some (excO C hp.objs.size) := by heap_get
  have hnx : base.get? (hp.objs.size + 1) = none := by
    cases e : base.get? (hp.objs.size + 1) with
    | none => rfl
    | some o =>
      have z : hp.get? (hp.objs.size + 1) = some o := kb _ _ e
      exact absurd (Nat.lt_of_succ_lt (Heap.lt_size z)) (Nat.lt_irrefl _)
  refine call_own F.excBase_ValueError (fun X => refsVE_contains X bm hbm) (X _ _ hC) (looks_findIn X U.iC) (fun self => bind_fn X self T.tI) (one_size v) ?_
  refine owe_init (s := ⟨(hp.push (kdv_tup [v])).push (excO C hp.objs.size), g, dr, tk, os⟩) (v := v) T U M hsup (fun b o e => k b o (kb b o e)) hget hnx ?_ ?_ fun h' tk' dx ⟨k', hx, dn, dne, hns⟩ => ?_
  · show A.depth + 1 < recursionLimit
    exact hroom
  · rintro fd ⟨dT, kV, doc, pm, an, ct, cda, cc, p1, p2, p3, a0, a1, a2, a3, a4, a5, q1, q2, q3, q4, o, n, rfl, lT, dTt⟩
    obtain ⟨kk, e1, e2⟩ : ∃ kk, bindArgs (ksFn "__init__" "OweError.__init__" (iA p1 p2 p3) (iB a0 a1 a2 a3 a4 a5 q1 q2 q3 q4) iS (.ref dT) kV doc pm an (.ref cda) ct cc) ⟨[.ref (hp.objs.size + 1), v], []⟩ = seqItems? (.ref dT) >>= kk ∧ kk (some #[.none]) = pure [(("self" : Str), .ref (hp.objs.size + 1)), ("what", v)] := ⟨_, rfl, rfl⟩
    refine L2.BindsTo.of_looks fun M => ?_
    rw [e1]
    exact L2.looks_items (X.keeps k) lT dTt (.of_pure e2)
  · have old : ∀ b o, hp.get? b = some o → h'.get? b = some o := fun b o e => k' b o (Nat.ne_of_lt (Nat.lt_succ_of_lt (Heap.lt_size e))) (k b o e)
    have z : hp.objs.size + 1 + 1 ≤ dx := by
      first
        | (simpa only [Heap.size_push] using dn)
        | exact dn
        | (have q := dn; rw [Heap.size_push, Heap.size_push] at q; exact q)
    exact ⟨rfl, hq h' tk' (hp.objs.size + 1) dx ⟨old, Nat.le_succ _, hx, Nat.le_trans (Nat.le_trans (Nat.le_succ _) (Nat.le_succ _)) z, dne, hns⟩⟩
end
end OweX
end PySem

namespace L2
open PySem PySem.Spec PyProof.Rows
theorem relO_what {v : V} {v' : Value} (r : RelV v v') (f : Str) : RelO (List.lookup f [(("what" : Str), v)]) (if f = "what" then some v' else none) := by
  by_cases hw : f = "what"
  · subst hw
    rw [if_pos rfl]
    have q : List.lookup ("what" : Str) [(("what" : Str), v)] = some v := by simp [List.lookup]
    rw [q]
    exact r
  · rw [if_neg hw]
    have qw : (f == ("what" : Str)) = false := by simpa using hw
    have q2 : List.lookup f [(("what" : Str), v)] = none := by simp [List.lookup, qw]
    rw [q2]
    trivial
section
variable {X : Cx} {D C fI : Addr} {x : Str}
/-- C(e) -/
def tMkOwe (C : Addr) (ta : TA) : St → Hp → XK → Prop := fun σ H Q => ta σ H fun vs H1 => ∃ v, vs = [v] ∧ ∀ d, H1 d = none → Q (.ref C) (some d) (upd H1 d (.xd [(("what" : Str), v)]))
theorem pmk_owe {a : Expr} {ta : TA} {p pos : Pos} {k : Nat} (T : PySem.OweX.Txt X.prog X.K D fI) (U : PySem.OweX.Cls X.K D fI C) (hm : X.mg x = some (.ref C)) (hsup : X.mg "super" = none) (hr : Room k X.A) (ha : PA X [a] ta) (hg : Gl X x)
    (hdb : (x == ("__debug__" : Str)) = false := by decide) (he : starEach (a :: []) X.env = (false, eval a X.env) :: starEach [] X.env := by rfl) (hpl : (backTo pos (starEach [] X.env)).any (·.1) = false := by rfl) :
    PMk X (.Call (.Name x p) [a] [] pos) (tMkOwe C ta) := by
  intro pins s σ H Q I h
  refine wpAny_Call_Name_kw (ld_glob I hg hm ?_ hdb)
  refine PySem.W.callWith_K (h₀ := X.base) I.ok.mod.kin U.kC (thn (ha.run pos pins s σ H _ I h) fun us s1 hh => ?_) he hpl
  obtain ⟨vs, H1, I1, r1, v, ev, q1⟩ := hh
  subst ev
  refine ⟨I1.kIn, ?_⟩
  cases r1 with
  | cons rv rn =>
    rename_i v' us'
    cases rn
    show wpAny _ _ (call (.ref C) [v']) _ _ _
    have bk := I1.bk
    obtain ⟨hp, g, dr, tk, os⟩ := s1
    refine wpAny_call (PySem.OweX.owe_made T U I1.ok.mod hsup bk (by have := hr.dp; omega) fun h' tk' e d M => ?_)
    show MkP X pins σ Q (.ref e) ⟨h', g, dr, tk', os⟩
    obtain ⟨t1, hoe⟩ := M.obj
    have hns := M.ns
    obtain ⟨G', g1, g2⟩ := restrict h' fun b => decide (b ≠ e)
    have gk : ∀ b, b ≠ e → G'.get? b = h'.get? b := fun b hb => g1 b (decide_eq_true hb)
    have ge : G'.get? e = none := g2 e (by simp)
    have old : ∀ b o, hp.get? b = some o → G'.get? b = some o := fun b o q => (gk b (Nat.ne_of_lt (Nat.lt_of_lt_of_le (Heap.lt_size q) M.new))).trans (M.keep b o q)
    have ob : ObjOk X.prog X.w (upd H1 d (.xd [(("what" : Str), v)])) G' d (.xd [(("what" : Str), v)]) :=
      ⟨_, hns.at (fun o q => (gk d M.dne).trans q), fun f => relO_what rv f⟩
    have J : Inv X pins σ (upd H1 d (.xd [(("what" : Str), v)])) ⟨G', g, dr, tk', os⟩ := I1.laid (t' := tk') old M.dbig ob
    refine ⟨e, _, _, ⟨G', g, dr, tk', os⟩, _, .ref C, some d, rfl, J, fun b o q => ?_, ge, hoe, ⟨rfl, rfl⟩, rfl, rfl, ?_, rfl, I1.bare, raises_own U.exC U.tyC, q1 d (I1.hok.fresh M.dbig)⟩
    · by_cases hb : b = e
      · have q' : G'.get? b = some o := q
        rw [hb, ge] at q'; cases q'
      · exact (gk b hb).symm.trans q
    · rw [upd_ne (Ne.symm M.dne)]
      exact I1.hok.fresh M.new
/-- raise C(e) -/
def tRaiseOwe (C : Addr) (W : WX) (ta : TA) : TS := fun _ σ H => tMkOwe C ta σ H fun cls d H' => W cls d σ H'
theorem ps_raiseOwe {a : Expr} {ta : TA} {W : WX} {p pos pos2 : Pos} {k : Nat} (hc : X.calm = true) (T : PySem.OweX.Txt X.prog X.K D fI) (U : PySem.OweX.Cls X.K D fI C) (hm : X.mg x = some (.ref C)) (hsup : X.mg "super" = none) (hr : Room k X.A) (tk : Takes X W) (ha : PA X [a] ta) (hg : Gl X x)
    (hdb : (x == ("__debug__" : Str)) = false := by decide) (he : starEach (a :: []) X.env = (false, eval a X.env) :: starEach [] X.env := by rfl) (hpl : (backTo pos (starEach [] X.env)).any (·.1) = false := by rfl) :
    PS X (.Raise (some (.Call (.Name x p) [a] [] pos)) none pos2) (tRaiseOwe C W ta) := ps_raise hc tk (pmk_owe T U hm hsup hr ha hg hdb he hpl)
/-- e.what, e the exception that the suite holds (at a; its class cls, its dict d) -/
def tWhat (C : Addr) (a : Addr) (cls : Value) (d : Option Addr) (te : TE) : TE := fun σ H Q => te σ H fun x H1 => x = .ref a ∧ cls = .ref C ∧ ∃ (dd : Addr) (v : V), d = some dd ∧ H1 dd = some (.xd [(("what" : Str), v)]) ∧ Q v H1
theorem pe_what {a : Addr} {oe : Obj} {cls : Value} {d : Option Addr} {pn : List (Addr × Obj)} {e : Expr} {te : TE} {pos : Pos} (U : PySem.OweX.Cls X.K D fI C) (hz : Zc cls d oe) (hf : ∃ vs, oe.data = .fields vs) (he : PE (X.suite a ((a, oe) :: pn)) e te)
    (hb : attributeBase e "what" X.env (eval e X.env) = eval e X.env := by rfl) :
    PE (X.suite a ((a, oe) :: pn)) (.Attribute e "what" pos) (tWhat C a cls d te) := by
  refine ⟨fun pins s σ H Q I h => ?_⟩
  refine attr_of hb (thn (he.run pins s σ H _ I h) fun u s1 hh => ?_)
  obtain ⟨x, H1, I1, rx, ex, ec, dd, v, ed, ea, q⟩ := hh
  subst ex
  obtain rfl : u = Value.ref a := rx
  subst ec
  subst ed
  obtain ⟨ha, _⟩ := I1.pin (a, oe) (List.mem_append_left _ List.mem_cons_self)
  obtain ⟨vs, hd⟩ := hf
  have hx : ObjOk X.prog X.w H1 s1.heap dd (.xd [(("what" : Str), v)]) := I1.hok dd _ ea
  obtain ⟨mA, hns, hr⟩ := hx
  obtain ⟨od, ho, hl⟩ := lookIn_ns hns
  have l : List.lookup ("what" : Str) [(("what" : Str), v)] = some v := by simp [List.lookup]
  obtain ⟨u, hu, ru⟩ := RelO.some_of (v := v) (o := mA "what") (by rw [← l]; exact hr "what")
  have J : PySem.W.InstAt s1.heap a oe C (some od) := ⟨ha, hz.1, by unfold PySem.W.notCls; rw [hd] <;> rfl, by rw [hz.2]; exact ho⟩
  exact HandSPX.exc_get I1.kIn J U.ga U.gg U.exC (PySem.W.findObj_own U.hdC U.noN rfl (by rw [hl, hu])) (handed_of ru) ⟨v, H1, I1.tok _, ru, q⟩
end
end L2

namespace L2
open PySem PySem.Spec PyProof.Rows
/-- a promise for calls out of code that no repr waits for -/
structure FnG (P : Program) (w : World) (K : PySem.W.Frag) (mg : Str → Option Value) (base : Heap) (CX : CXT) (k : Nat) (f : Addr) (fd : FuncData) (ps : List Str) (sp : Sp) : Prop where
  len : ∀ vs H Q E, sp vs H Q E → vs.length = ps.length
  run : ∀ (A : Around) (outer : List Env) (s : Shared) (H : Hp) (args : Args) (us : List Value) (vs : List V) (Q : VK) (E : XK), Room k A → A.guards = some [] → Env0 P w K mg base A outer s H → BindsTo s fd args (ps.zip us) → Vals vs us → sp vs H Q E →
    codeAny (model P w) A (.call (.ref f) args) (CR CX outer P w H s Q E) s
section
variable {CX : CXT} {P : Program} {w : World} {K : PySem.W.Frag} {mg : Str → Option Value} {base : Heap} {k : Nat} {f : Addr}
theorem FnOk.g {fd : FuncData} {ps : List Str} {sp : Sp} (F : FnOk P w K mg base CX k f fd ps sp) : FnG P w K mg base CX k f fd ps sp := ⟨F.len, fun A outer s H args us vs Q E hr _ => F.run A outer s H args us vs Q E hr⟩
theorem FnG.mono {fd : FuncData} {ps : List Str} {sp : Sp} {j : Nat} (F : FnG P w K mg base CX j f fd ps sp) (h : j ≤ k) : FnG P w K mg base CX k f fd ps sp := ⟨F.len, fun A outer s H args us vs Q E hr => F.run A outer s H args us vs Q E (hr.mono h)⟩
theorem fng_of {name qual : Str} {params : Arguments} {body : List Stmt} {scope : Scope} {dV kV doc pm cdv ct oc : Value} {an od : Option Addr} {osl : Array (Option Value)} {N ps : List Str} {sp : Sp}
    (lk : K.lookup f = some ⟨oc, od, .func (PySem.W.fnOf name qual params body scope dV kV doc pm an cdv ct), osl⟩) (hcd : PySem.W.codeIn K cdv qual = true) (S : FnScope N ps scope) (len : ∀ vs H Q E, sp vs H Q E → vs.length = ps.length)
    (hbody : ∀ (A : Around) (outer : List Env) (s : Shared) (H : Hp) (vs : List V) (Q : VK) (E : XK), Room k (A.deeper (envOfC qual scope s.heap.objs.size f cdv)) → A.guards = some [] → sp vs H Q E →
      ∃ t, PSs (cxOf CX P w K mg base N qual scope f cdv A outer s H E) body t ∧ t { nx := fun _ H' => Q .non H', rt := Q } (start N vs) H) :
    FnG P w K mg base CX (k + 1) f (PySem.W.fnOf name qual params body scope dV kV doc pm an cdv ct) ps sp where
  len := len
  run := fun A outer s H args us vs Q E hr hg e0 hb r hsp => by
    have old : ∀ b o, base.get? b = some o → s.heap.get? b = some o := fun b o e => (e0.bs b o e).1
    have ki : K.In s.heap := e0.mod.kin.keeps old
    refine codeAny_call_function hr.depth (ki _ _ lk) rfl S.co S.gen rfl (PySem.W.codeRec_of ki hcd) (hb _ _ _ _ ?_)
    refine wpAny_newFunctionEnv_cells S.kind (fun y hy => (S.par y.1 (List.of_mem_zip hy).1).imp id fun q => ⟨q, PySem.W.cellsFrom_some _ _ _ (.inl q)⟩) fun env he s1 x => ?_
    cases he
    obtain ⟨t, ht, hq⟩ := hbody A outer s H vs Q E (hr.deeper _) hg hsp
    refine ⟨(e0.mod.nolimit.keeps old).keeps x.toInCall.keep, codeAny_func (wpAny_mono (ht.run [] s1 (start N vs) H _ (inv_start S hr.hd e0 (len _ _ _ _ hsp) r x) hq) (fun fl s' hs => ?_) fun e s' hs => hs)⟩
    cases fl with
    | ret u => obtain ⟨v, σ', H', J, rv, q⟩ := hs; exact ⟨v, H', J.os, J.bare, J.base, J.hok, rv, q⟩
    | next => obtain ⟨σ', H', J, q⟩ := hs; exact ⟨.non, H', J.os, J.bare, J.base, J.hok, rfl, q⟩
    | brk => obtain ⟨_, _, _, q⟩ := hs; exact False.elim q
    | cont => obtain ⟨_, _, _, q⟩ := hs; exact False.elim q
end
end L2
namespace L2
open PySem PySem.Spec PyProof.Rows
/-- what is tracked at the start: the script, unless the module itself holds it -/
def hp0 (K : PySem.W.Frag) (a : Addr) (o : Obj) (u : HO) : Hp := fun b => if b = a ∧ K.lookup a = none then some (.frz o u) else none
section
variable {K : PySem.W.Frag} {a : Addr} {o : Obj} {u : HO}
theorem hp0_of {b : Addr} {x : HO} (h : hp0 K a o u b = some x) : b = a ∧ K.lookup a = none ∧ x = .frz o u := by
  unfold hp0 at h
  split at h
  · rename_i c; cases h; exact ⟨c.1, c.2, rfl⟩
  · cases h
theorem hp0_at (h : K.lookup a = none) : hp0 K a o u a = some (.frz o u) := if_pos ⟨rfl, h⟩
end
theorem law_g {P : Program} {w : World} {K : PySem.W.Frag} {mg mb : Str → Option Value} {CX : CXT} {k : Nat} {fa a : Addr} {fd : FuncData} {x : Str} {sp : Sp} {s₁ : Shared} {vs : List Value} {ns : List Int}
    (KX : K.In s₁.heap) (hns : s₁.heap.Ns mainGlobals mg) (hb : s₁.heap.Ns builtinsNs mb) (hbb : ∀ x : Str, x ≠ "__name__" → mb x = bootBuiltins x) (hlim : s₁.heap.NoLimit) (hg : s₁.gens = #[])
    (ha : s₁.heap.get? a = some { cls := .type "list", data := .seq vs.toArray }) (hi : IntsAre vs ns) (hl : ns.length ≤ sizeLine) (hr : Room k callerA)
    (F : ∀ base : Heap, K.In base → base.Ns mainGlobals mg → FnG P w K mg base CX k fa fd [x] sp) (hbind : ∀ (s : Shared) (u : Value), BindsTo s fd ⟨[u], []⟩ [(x, u)])
    (hsp : ∀ H : Hp, Only H → SqL K H a (ns.map V.int) → sp [.ref a] H (fun v _ => v = .bl true) fun _ _ _ => False)
    (hCX : ∀ H e s', CX [] H s₁ (fun _ _ _ => False) e s' → False) :
    codeAny (model P w) callerA (.call (.ref fa) ⟨[.ref a], []⟩) (fun r s' => r = .ok (.ret (.bool true)) ∧ OldK s₁.heap s'.heap ∧ s'.os = s₁.os ∧ AllBare s'.gens) s₁ := by
  have rv := vals_ints hi
  let sc : Obj := { cls := .type "list", data := .seq vs.toArray }
  let H := hp0 K a sc (.lst (ns.map V.int))
  have fr : ∀ {b : Addr} {o : Obj} {x : HO}, H b = some x → s₁.heap.get? b = some o → o = sc := fun h e => by
    obtain ⟨rfl, _⟩ := hp0_of h
    exact Option.some.inj (e.symm.trans ha)
  have nsB : ∀ {b : Addr} {m : Str → Option Value}, s₁.heap.Ns b m → (hidT s₁.heap H).Ns b m := fun {b m} ⟨o, es, ep, e, d, r⟩ => ⟨o, es, ep, hidT_get e (by
    cases q : H b with
    | none => rfl
    | some u =>
      have z := fr q e
      rw [z] at d
      cases d), d, r⟩
  have kb : K.In (hidT s₁.heap H) := fun b o e => hidT_get (KX b o e) (by
    cases q : H b with
    | none => rfl
    | some u =>
      obtain ⟨rfl, z, _⟩ := hp0_of q
      rw [z] at e
      cases e)
  have only : Only H := fun b => by
    cases q : H b with
    | none => exact .inl rfl
    | some u => obtain ⟨_, _, rfl⟩ := hp0_of q; exact .inr ⟨_, _, rfl⟩
  have hS : SqL K H a (ns.map V.int) := by
    cases q : K.lookup a with
    | none => exact .inl (.inr ⟨sc, hp0_at q⟩)
    | some o =>
      have e := (KX a o q).symm.trans ha
      cases e
      exact .inr ⟨_, vs.toArray, _, q, rfl, rfl, rfl, by rw [List.size_toArray, hi.length]; exact hl, by simpa using rv⟩
  have hok : HOk P w H s₁.heap := fun b u z => by
    obtain ⟨rfl, _, rfl⟩ := hp0_of z
    exact ⟨ha, by rw [List.length_map]; exact hl, vs, _, rv, ha⟩
  have e0 : Env0 P w K mg (hidT s₁.heap H) callerA [] s₁ H :=
    ⟨rfl, ⟨kb, nsB hns, ⟨mb, nsB hb, hbb⟩, hlim.imp fun _ z => ⟨nsB z.1, z.2⟩⟩, fun _ _ e => of_hidT e, Nat.le_of_eq (hidT_size _ _), trivial, fun b z => absurd (show b ∈ ([] : List Addr) from z) (by simp), hok, .of_eq hg⟩
  refine codeAny_mono ((F _ kb (nsB hns)).run callerA [] s₁ H ⟨[.ref a], []⟩ [.ref a] [.ref a] _ _ hr rfl e0 (hbind s₁ (.ref a)) (.cons rfl .nil) (hsp H only hS)) fun r s' h => ?_
  cases r with
  | error e => exact (hCX H e s' h).elim
  | ok fl =>
    cases fl with
    | ret u =>
      obtain ⟨v, H', os, bare, un, hok', r', rfl⟩ := h
      cases r'
      refine ⟨rfl, OldK.of_keep fun b o e => ?_, os, bare⟩
      cases q : H b with
      | none => exact un.keep b o e q (fun z => absurd (show b ∈ ([] : List Addr) from z) (by simp)) (by simp)
      | some u =>
        obtain ⟨_, _, rfl⟩ := hp0_of q
        rw [fr q e]
        exact (hok' b _ (un.frzs b _ _ q)).1
    | _ => exact False.elim h
theorem walk_ofG {l : PySem.W.OpenLaw} {n k : Nat} {q : Program} {loose : List Str} {XP : (Str → Option Value) → Heap → Prop} {YP : World → Heap → Prop} {d : DefRec} {CX : CXT} {x : Str}
    (hn : l.most = some n) (hn2 : n ≤ sizeLine) (hdf : d.params.defaults = []) (hr : Room k callerA)
    (F : ∀ (w : World) (mg : Str → Option Value) (fa : Addr) (h : Heap), YP w h → h.Ns mainGlobals mg → mg d.name = some (.ref fa) →
      ∃ (K : PySem.W.Frag) (fd : FuncData) (sp : Sp), K.In h ∧ (∀ (s : Shared) (u : Value), BindsTo s fd ⟨[u], []⟩ [(x, u)]) ∧
        (∀ (H : Hp) (a : Addr) (ns : List Int), ns.length ≤ n → Only H → SqL K H a (ns.map V.int) → sp [.ref a] H (fun v _ => v = .bl true) fun _ _ _ => False) ∧
        ∀ base : Heap, K.In base → base.Ns mainGlobals mg → FnG l.prog w K mg base CX k fa fd [x] sp)
    (hCX : ∀ (H : Hp) (s : Shared) (e : Value) (s' : Shared), CX [] H s (fun _ _ _ => False) e s' → False) :
    PySem.W.WalkO q loose XP YP l.row.toRowW d [] (fun f vs => PySem.call f vs) :=
  Att.attach_call hn hdf fun w s₀ s₁ mg mb fa o pm cd doc a vs ns G Y _ _ _ hmg hobj hints hlen hg => by
    obtain ⟨K, fd, sp, KX, hb, hsp, hF⟩ := F w mg fa _ Y G.T.g hmg
    exact law_g KX G.T.g G.T.b G.T.builtins G.T.nolimit hg hobj hints (Nat.le_trans hlen hn2) hr hF hb (fun H hO hS => hsp H a ns hlen hO hS) fun H e s' => hCX H s₁ e s'
end L2

namespace L2
open PySem PySem.Spec PyProof.Rows PySem.PyData
def keyD : Key → PyData
  | .inl i => .int i
  | .inr x => .str x
mutual
/-- data, dicts (with keys that are ints and texts) too -/
inductive Dq (K : PySem.W.Frag) (H : Hp) : V → PyData → Prop
  | non : Dq K H .non .none
  | bl (b : Bool) : Dq K H (.bl b) (.bool b)
  | int (i : Int) : Dq K H (.int i) (.int i)
  | str (x : Str) : Dq K H (.str x) (.str x)
  | lst {a : Addr} {xs : List V} {ds : List PyData} : SqL K H a xs → DqAll K H xs ds → Dq K H (.ref a) (.list ds)
  | tup {a : Addr} {xs : List V} {ds : List PyData} : SqT K H a xs → DqAll K H xs ds → Dq K H (.ref a) (.tuple ds)
  | dct {a : Addr} {kvs : List (Key × V)} {es : List (PyData × PyData)} : H a = some (.dK kvs) → kvs.map (fun q => keyD q.1) = es.map (·.1) → DqAll K H (kvs.map (·.2)) (es.map (·.2)) → Dq K H (.ref a) (.dict es)
inductive DqAll (K : PySem.W.Frag) (H : Hp) : List V → List PyData → Prop
  | nil : DqAll K H [] []
  | cons {v : V} {vs : List V} {d : PyData} {ds : List PyData} : Dq K H v d → DqAll K H vs ds → DqAll K H (v :: vs) (d :: ds)
end
section
variable {K : PySem.W.Frag} {G G' : Hp}
mutual
theorem Dq.mono (s : Same G G') : ∀ {v : V} {d : PyData}, Dq K G v d → Dq K G' v d
  | _, _, .non => .non
  | _, _, .bl b => .bl b
  | _, _, .int i => .int i
  | _, _, .str x => .str x
  | _, _, .lst h a => .lst (SqL.mono h s) (DqAll.mono s a)
  | _, _, .tup h a => .tup (SqT.mono h s) (DqAll.mono s a)
  | _, _, .dct h k a => .dct (s _ _ h) k (DqAll.mono s a)
theorem DqAll.mono (s : Same G G') : ∀ {vs : List V} {ds : List PyData}, DqAll K G vs ds → DqAll K G' vs ds
  | _, _, .nil => .nil
  | _, _, .cons h t => .cons (Dq.mono s h) (DqAll.mono s t)
end
mutual
theorem Dp.q : ∀ {v : V} {d : PyData}, Dp K G v d → Dq K G v d
  | _, _, .non => .non
  | _, _, .bl b => .bl b
  | _, _, .int i => .int i
  | _, _, .str x => .str x
  | _, _, .lst h a => .lst h (DpAll.q a)
  | _, _, .tup h a => .tup h (DpAll.q a)
theorem DpAll.q : ∀ {vs : List V} {ds : List PyData}, DpAll K G vs ds → DqAll K G vs ds
  | _, _, .nil => .nil
  | _, _, .cons h t => .cons (Dp.q h) (DpAll.q t)
end
mutual
theorem Dq.p : ∀ {v : V} (d : PyData), d.hasDict = false → Dq K G v d → Dp K G v d
  | _, .none, _, h => by cases h; exact .non
  | _, .bool b, _, h => by cases h; exact .bl b
  | _, .int i, _, h => by cases h; exact .int i
  | _, .str x, _, h => by cases h; exact .str x
  | _, .list ds, e, h => by
    cases h with
    | lst hs ha => exact .lst hs (DqAll.p ds (by simpa [PyData.hasDict] using e) ha)
  | _, .tuple ds, e, h => by
    cases h with
    | tup hs ha => exact .tup hs (DqAll.p ds (by simpa [PyData.hasDict] using e) ha)
  | _, .dict _, e, _ => by simp [PyData.hasDict] at e
theorem DqAll.p : ∀ {vs : List V} (ds : List PyData), PyData.hasDictAll ds = false → DqAll K G vs ds → DpAll K G vs ds
  | _, [], _, h => by cases h; exact .nil
  | _, d :: ds, e, h => by
    simp only [PyData.hasDictAll, Bool.or_eq_false_iff] at e
    cases h with
    | cons h1 h2 => exact .cons (Dq.p d e.1 h1) (DqAll.p ds e.2 h2)
end
theorem DqAll.length : ∀ {vs : List V} {ds : List PyData}, DqAll K G vs ds → vs.length = ds.length
  | _, _, .nil => rfl
  | _, _, .cons _ t => congrArg (· + 1) (DqAll.length t)
theorem DqAll.get : ∀ {vs : List V} {ds : List PyData} {i : Nat} {d : PyData}, DqAll K G vs ds → ds[i]? = some d → ∃ v, vs[i]? = some v ∧ Dq K G v d
  | _, _, _, _, .nil, e => by simp at e
  | _, _, 0, _, .cons h _, e => by simp at e; subst e; exact ⟨_, rfl, h⟩
  | _, _, i + 1, d, .cons _ t, e => by
    obtain ⟨v, h1, h2⟩ := DqAll.get (i := i) (d := d) t (by simpa using e)
    exact ⟨v, by simpa using h1, h2⟩
theorem DqAll.getV : ∀ {vs : List V} {ds : List PyData} {i : Nat} {v : V}, DqAll K G vs ds → vs[i]? = some v → ∃ d, ds[i]? = some d ∧ Dq K G v d
  | _, _, _, _, .nil, e => by simp at e
  | _, _, 0, _, .cons h _, e => by simp at e; subst e; exact ⟨_, rfl, h⟩
  | _, _, i + 1, v, .cons _ t, e => by
    obtain ⟨d, h1, h2⟩ := DqAll.getV (i := i) (v := v) t (by simpa using e)
    exact ⟨d, by simpa using h1, h2⟩
end
section
variable {X : Cx} {pins : List (Addr × Obj)} {σ : St} {H : Hp} {s : Shared}
theorem pairs_reads {P : Program} {w : World} {h : Heap} : ∀ {es : List DictEntry} {vs : List (Key × Value)} {kvs : List (Key × V)}, Pairs (mixKind P w) es vs → KV kvs vs →
    ReadsAll h (es.map (·.key)) (kvs.map fun q => keyD q.1) [] ∧ Vals (kvs.map (·.2)) (es.map (·.val))
  | _, _, _, .nil, .nil => ⟨.nil, .nil⟩
  | _, _, _, .cons hk hv t, .cons hr tr => by
    obtain ⟨e1, e2⟩ := hr
    obtain ⟨q1, q2⟩ := pairs_reads t tr
    refine ⟨?_, .cons (show RelV _ _ from by show RelV _ (DictEntry.val _); rw [hv]; exact e2) q2⟩
    have hk' := keyIs_shape hk
    rcases hk' with ⟨i, tk, z1, z2⟩ | ⟨x, tk, z1, z2⟩
    · rw [List.map_cons, List.map_cons, z2, e1, z1]
      exact ReadsAll.cons (as := []) (Reads.int i tk) q1
    · rw [List.map_cons, List.map_cons, z2, e1, z1]
      exact ReadsAll.cons (as := []) (Reads.str x tk) q1
mutual
theorem Dq.reads (I : Inv X pins σ H s) (hs : ∃ o, X.K.lookup sysModules = some o ∧ o.cls = .type "dict") : ∀ (d : PyData) (v : V) (u : Value), Dq X.K H v d → RelV v u → ∃ as, Reads s.heap u d as ∧ sysModules ∉ as
  | .none, _, _, h, r => by
    cases h
    cases r
    exact ⟨_, Reads.none, by simp⟩
  | .bool b, _, _, h, r => by
    cases h
    cases r
    exact ⟨_, Reads.bool b, by simp⟩
  | .int i, _, _, h, r => by
    cases h
    obtain ⟨t, rfl⟩ := r
    exact ⟨_, Reads.int i t, by simp⟩
  | .str x, _, _, h, r => by
    cases h
    obtain ⟨t, rfl⟩ := r
    exact ⟨_, Reads.str x t, by simp⟩
  | .list ds, _, _, h, r => by
    cases h with
    | lst hq ha =>
      cases r
      obtain ⟨its, rv, ⟨o, n, ho, hc, _, hd⟩, _⟩ := I.list hq
      obtain ⟨as, hr, hn⟩ := Dq.readsAll I hs ds _ its ha rv
      refine ⟨_, Reads.list ho hc hd hr, fun z => ?_⟩
      rcases List.mem_cons.mp z with e | e
      · obtain ⟨o', e1, e2⟩ := hs
        have q := I.kIn _ _ e1
        rw [e, ho] at q
        cases q
        rw [hc] at e2
        exact absurd (Value.type.inj e2) (by decide)
      · exact hn e
  | .tuple ds, _, _, h, r => by
    cases h with
    | tup hq ha =>
      cases r
      obtain ⟨its, rv, ⟨o, ho, hc, n, hd⟩, _⟩ := I.tuple hq
      obtain ⟨as, hr, hn⟩ := Dq.readsAll I hs ds _ its ha rv
      exact ⟨_, Reads.tuple ho hc hd hr, hn⟩
  | .dict es, _, _, h, r => by
    cases h with
    | @dct a kvs _ hq hk ha =>
      cases r
      obtain ⟨_, hsm, vs, kv, o, ent, ep, ho, hex, hd, _, hp, _⟩ := I.hok _ _ hq
      obtain ⟨q1, q2⟩ := pairs_reads (h := s.heap) hp kv
      obtain ⟨bs, hr, hn⟩ := Dq.readsAllK I hs es _ _ ha q2
      rw [hk] at q1
      refine ⟨_, Reads.dict ho hex.1 hd q1 hr, fun z => ?_⟩
      rcases List.mem_cons.mp (show sysModules ∈ a :: ([] ++ bs) from z) with e | e
      · rw [e] at hsm; simp at hsm
      · exact hn (by simpa using e)
theorem Dq.readsAll (I : Inv X pins σ H s) (hs : ∃ o, X.K.lookup sysModules = some o ∧ o.cls = .type "dict") : ∀ (ds : List PyData) (vs : List V) (us : List Value), DqAll X.K H vs ds → Vals vs us → ∃ as, ReadsAll s.heap us ds as ∧ sysModules ∉ as
  | [], _, _, h, r => by
    cases h
    cases r
    exact ⟨_, ReadsAll.nil, by simp⟩
  | d :: ds, _, _, h, r => by
    cases h with
    | cons h1 h2 =>
      cases r with
      | cons r1 r2 =>
        obtain ⟨as, q1, n1⟩ := Dq.reads I hs d _ _ h1 r1
        obtain ⟨bs, q2, n2⟩ := Dq.readsAll I hs ds _ _ h2 r2
        exact ⟨_, ReadsAll.cons q1 q2, fun z => (List.mem_append.mp z).elim n1 n2⟩
theorem Dq.readsAllK (I : Inv X pins σ H s) (hs : ∃ o, X.K.lookup sysModules = some o ∧ o.cls = .type "dict") : ∀ (es : List (PyData × PyData)) (vs : List V) (us : List Value), DqAll X.K H vs (es.map (·.2)) → Vals vs us → ∃ as, ReadsAll s.heap us (es.map (·.2)) as ∧ sysModules ∉ as
  | [], _, _, h, r => by
    cases h
    cases r
    exact ⟨_, ReadsAll.nil, by simp⟩
  | (k, d) :: es, _, _, h, r => by
    cases h with
    | cons h1 h2 =>
      cases r with
      | cons r1 r2 =>
        obtain ⟨as, q1, n1⟩ := Dq.reads I hs d _ _ h1 r1
        obtain ⟨bs, q2, n2⟩ := Dq.readsAllK I hs es _ _ h2 r2
        exact ⟨_, ReadsAll.cons q1 q2, fun z => (List.mem_append.mp z).elim n1 n2⟩
end
/-- repr(x), no other repr under way -/
def rRepr (K : PySem.W.Frag) : List V → Hp → VK → Prop := fun vs H Q => ∃ (v : V) (d : PyData), vs = [v] ∧ Dq K H v d ∧ d.showable = true ∧ d.shown.length ≤ sizeLine ∧ d.depth ≤ 100 ∧ Q (.str d.shown) H
theorem vals1v {v : V} {us : List Value} (h : Vals [v] us) : ∃ u, us = [u] ∧ RelV v u := by
  cases h with
  | cons r t => cases t; exact ⟨_, rfl, r⟩
theorem call_repr (hg : X.A.guards = some []) (hu : X.A.units + 110 < cLine) (hs : ∃ o, X.K.lookup sysModules = some o ∧ o.cls = .type "dict") : CallR X (.builtin "repr") (rRepr X.K) := by
  intro pins s σ H xs us Q I r h
  obtain ⟨v, d, rfl, hd, sh, sz, dp, q⟩ := h
  obtain ⟨u, rfl, ru⟩ := vals1v r
  obtain ⟨as, hr, hn⟩ := Dq.reads I hs d v u hd ru
  cases hd with
  | non => cases ru; exact PySem.P.repr_of_none ⟨.str _, H, I.tok _, ⟨_, rfl⟩, by rw [shown_none] at q; exact q⟩
  | bl b => cases ru; exact PySem.P.repr_of_bool ⟨.str _, H, I.tok _, ⟨_, rfl⟩, by rw [shown_bool] at q; exact q⟩
  | int i =>
    obtain ⟨t, rfl⟩ := ru
    exact PySem.P.repr_of_int (by simpa [PyData.showable] using sh) ⟨.str _, H, I.tok _, ⟨_, rfl⟩, by rw [shown_int] at q; exact q⟩
  | str x =>
    obtain ⟨t, rfl⟩ := ru
    exact PySem.P.repr_of_str ⟨.str _, H, I.tok _, ⟨_, rfl⟩, by rw [shown_str] at q; exact q⟩ (by rw [shown_str] at sz; exact sz)
  | lst a b => cases ru; exact repr_of_reads' hr sh (fun _ => hn) hg (by omega) (fun _ _ e => e) (fun h' u tk k => ⟨.str _, H, I.kept (t' := tk) k, ⟨_, rfl⟩, q⟩) sz
  | tup a b => cases ru; exact repr_of_reads' hr sh (fun _ => hn) hg (by omega) (fun _ _ e => e) (fun h' u tk k => ⟨.str _, H, I.kept (t' := tk) k, ⟨_, rfl⟩, q⟩) sz
  | dct a b c => cases ru; exact repr_of_reads' hr sh (fun _ => hn) hg (by omega) (fun _ _ e => e) (fun h' u tk k => ⟨.str _, H, I.kept (t' := tk) k, ⟨_, rfl⟩, q⟩) sz
end
end L2

namespace He
open PySem PySem.Spec PyProof.Rows L2 PySem.W PySem.HandSPX
def oD (K : PySem.W.Frag) : Addr := ga K "OweError"
def oI (K : PySem.W.Frag) : Addr := ma K (oD K) "__init__"
def shapeB (K : PySem.W.Frag) (C : Addr) : Bool := match K.lookup C with
  | some ⟨.type c, _, .cls cd, sl⟩ => (match cd.mro, sl.toList with
    | .ref C' :: bm, [_, _, _, _, some (.builtin n), _] => decide (c = "type") && (decide (C' = C) && (decide (n = "ValueError.__new__") && (!cd.hasDel && (cd.hasDict && refsVE bm))))
    | _, _ => false)
  | _ => false
theorem shape_ok {K : PySem.W.Frag} {C : Addr} (h : shapeB K C = true) : ∃ nm q N bs bm sn sub ab col dd k0 k1 k2 k3 k5, K.lookup C = some (excClassObj nm q C N bs bm true sn sub ab col dd k0 k1 k2 k3 k5 "ValueError.__new__") ∧ refsVE bm = true := by
  unfold shapeB at h
  split at h
  · rename_i c dd cd sl ho
    split at h
    · rename_i C' bm k0 k1 k2 k3 n k5 hm hs
      simp only [Bool.and_eq_true, decide_eq_true_eq, Bool.not_eq_true'] at h
      obtain ⟨rfl, rfl, rfl, hdel, hdct, hr⟩ := h
      obtain ⟨nm, bs, mro, ns, qn, hd, sn, sub, ab, col, del⟩ := cd
      dsimp only at hm hdel hdct
      subst hm hdel hdct
      have hsl : sl = #[k0, k1, k2, k3, some (.builtin "ValueError.__new__"), k5] := by
        obtain ⟨l⟩ := sl
        simp only at hs
        rw [hs]
      subst hsl
      exact ⟨nm, qn, ns, bs, bm, sn, sub, ab, col, dd, k0, k1, k2, k3, k5, ho, hr⟩
    · cases h
  · cases h
/-- an error class by its name -/
def errB (K : PySem.W.Frag) (x : Str) : Bool :=
  shapeB K (ga K x) && (eqO (findIn K (.ref (ga K x)) "__setattr__") (some (some (.builtin "object.__setattr__"))) && (eqO (findIn K (.ref (ga K x)) "__getattribute__") (some (some (.builtin "BaseException.__getattribute__"))) && (eqO (findIn K (.ref (ga K x)) "__getattr__") (some none) &&
  (eqO (findIn K (.ref (ga K x)) "what") (some none) && (eqO (findIn K (.ref (ga K x)) "__init__") (some (some (.ref (oI K)))) && (keepIn K (.ref (ga K x)) && (decide (subIn K (.ref (ga K x)) (.type "BaseException") = some true) && (decide (subIn K (.ref (ga K x)) (.type "ValueError") = some true) &&
  (decide (typeIn K (.ref (ga K x)) = some (.type "type")) && (hasDictIn K (ga K x) && (decide (mroIn K (ga K x) (.ref (oD K)) = some true) && eqO (ks_superIn K (ga K x) (oD K) "__init__") (some (some (.builtin "ValueError.__init__"))))))))))))))
theorem err_ok {K : PySem.W.Frag} {x : Str} (h : errB K x = true) : OweX.Cls K (oD K) (oI K) (ga K x) := by
  unfold errB at h
  obtain ⟨h1, h⟩ := ba h
  obtain ⟨h2, h⟩ := ba h
  obtain ⟨h3, h⟩ := ba h
  obtain ⟨h4, h⟩ := ba h
  obtain ⟨h5, h⟩ := ba h
  obtain ⟨h6, h⟩ := ba h
  obtain ⟨h7, h⟩ := ba h
  obtain ⟨h8, h⟩ := ba h
  obtain ⟨h9, h⟩ := ba h
  obtain ⟨h10, h⟩ := ba h
  obtain ⟨h11, h⟩ := ba h
  obtain ⟨h12, h13⟩ := ba h
  exact ⟨shape_ok h1, eqO_ok h2, eqO_ok h3, eqO_ok h4, eqO_ok h5, eqO_ok h6, h7, of_decide_eq_true h8, of_decide_eq_true h9, of_decide_eq_true h10, h11, of_decide_eq_true h12, eqO_ok h13⟩
abbrev OwW : Type := Option (Str × Str × Arguments × FuncBody × Scope × Addr × List Str × Addr)
def oweW (K : PySem.W.Frag) : OwW := match K.lookup (oI K) with
  | some ⟨_, _, .func fd, _⟩ => some (fd.name, fd.qualname, fd.params, fd.body, fd.scope, fd.globals, fd.closure.map (·.1), fd.builtins)
  | _ => none
def cellB (K : PySem.W.Frag) (cl : List (Str × Addr)) : Bool := match cl with
  | [(_, cc)] => (match K.lookup cc with
    | some ⟨_, _, .cell (some (.ref D)), _⟩ => decide (D = oD K)
    | _ => false)
  | _ => false
def fileB (K : PySem.W.Frag) (cd : Value) (file : Str) : Bool := match cd with
  | .ref c => (match K.lookup c with
    | some ⟨_, _, .fields vs, _⟩ => (match (vs[2]? : Option Value) with
      | some (.str f _) => file == f
      | _ => false)
    | _ => false)
  | _ => false
def nonB (K : PySem.W.Frag) (dV : Value) : Bool := match dV with
  | .ref T => (match K.lookup T with
    | some ⟨_, _, .seq its _, _⟩ => (match its.toList with
      | [.none] => true
      | _ => false)
    | _ => false)
  | _ => false
def oweB (K : PySem.W.Frag) (file : Str) : Bool := (match K.lookup (oI K) with
  | some ⟨_, _, .func fd, _⟩ => codeIn K fd.code "OweError.__init__" && (cellB K fd.closure && (fileB K fd.code file && nonB K fd.defaults))
  | _ => false) && (decide (typeIn K (.ref (oI K)) = some (.type "function")) && ((clsIn K (oD K)).isSome && (eqO (nsIn K cStatics "thirdparty.any") (some none) && (match K.lookup sysModules with
  | some o => decide (o.cls = .type "dict")
  | none => false))))
def oweVal (p1 p2 p3 a0 a1 a2 a3 a4 a5 q1 q2 q3 q4 : Pos) : OwW := some (PySem.Str.ofString "__init__", PySem.Str.ofString "OweError.__init__", OweX.iA p1 p2 p3, FuncBody.stmts (OweX.iB a0 a1 a2 a3 a4 a5 q1 q2 q3 q4), OweX.iS, mainGlobals, [PySem.Str.ofString "__class__"], builtinsNs)
theorem owe_ok {prog : Program} {K : PySem.W.Frag} {p1 p2 p3 a0 a1 a2 a3 a4 a5 q1 q2 q3 q4 : Pos} (e : oweW K = oweVal p1 p2 p3 a0 a1 a2 a3 a4 a5 q1 q2 q3 q4) (c : oweB K prog.main.file = true)
    (hl : (a2.endLine == a4.line) = true) (top : (prog.main.scope.names.lookup ("super" : Str)).isSome = false) : OweX.Txt prog K (oD K) (oI K) ∧ ∃ o, K.lookup sysModules = some o ∧ o.cls = .type "dict" := by
  unfold oweB at c
  obtain ⟨c1, c2⟩ := ba c
  obtain ⟨c3, c4⟩ := ba c2
  obtain ⟨c5, c6⟩ := ba c4
  obtain ⟨c7, c8⟩ := ba c6
  have sm : ∃ o, K.lookup sysModules = some o ∧ o.cls = .type "dict" := by
    cases q : K.lookup sysModules with
    | none => rw [q] at c8; cases c8
    | some o => rw [q] at c8; exact ⟨o, rfl, of_decide_eq_true c8⟩
  refine ⟨⟨?_, of_decide_eq_true c3, Option.isSome_iff_exists.mp c5, eqO_ok c7, top⟩, sm⟩
  unfold oweW oweVal at e
  cases q : K.lookup (oI K) with
  | none => rw [q] at c1; cases c1
  | some o =>
    obtain ⟨oc, od, dt, osl⟩ := o
    rw [q] at c1 e
    cases dt with
    | func fd =>
      obtain ⟨n1, n2, n3, n4, n5, n6, n7, n8, n9, n10, n11, n12, n13, n14, n15⟩ := fd
      simp only [Option.some.injEq, Prod.mk.injEq] at e
      obtain ⟨h1, h2, h3, h4, h5, h6, h7, h8⟩ := e
      subst h1 h2 h3 h4 h5 h6 h8
      dsimp only at c1
      obtain ⟨k1, r1⟩ := ba c1
      obtain ⟨k2, r2⟩ := ba r1
      obtain ⟨k3, k4⟩ := ba r2
      unfold cellB at k2
      split at k2
      · rename_i nn cc
        split at k2
        · rename_i cl cld D csl hc
          have hD : D = oD K := of_decide_eq_true k2
          subst hD
          have hn : nn = ("__class__" : Str) := by simpa using h7
          subst hn
          unfold fileB at k3
          split at k3
          · rename_i cda
            split at k3
            · rename_i ccl cdd vs ccs hcd
              split at k3
              · rename_i f tf hf
                unfold nonB at k4
                split at k4
                · rename_i T
                  split at k4
                  · rename_i tc td its n tsl hT
                    split at k4
                    · rename_i hi
                      refine ⟨oc, od, T, n9, n10, n11, n12, n14, osl, cda, cc, p1, p2, p3, a0, a1, a2, a3, a4, a5, q1, q2, q3, q4, rfl, k1, ⟨ccl, cdd, vs, ccs, f, tf, hcd, hf, k3⟩, ⟨cl, cld, csl, hc⟩, ⟨_, n, hT, ?_⟩, hl⟩
                      have : its = #[Value.none] := by
                        obtain ⟨l⟩ := its
                        simp only at hi
                        rw [hi]
                      rw [this]
                    · cases k4
                  · cases k4
                · cases k4
              · cases k3
            · cases k3
          · cases k3
        · cases k2
      · cases k2
    | _ => cases c1
/-- a plain class: what isinstance asks of its objects, and of it -/
def insB (K : PySem.W.Frag) (x : Str) : Bool :=
  eqO (findIn K (.ref (ga K x)) "__class__") (some (some (.builtin "object.__class__"))) && (eqO (specialIn K (.builtin "object.__class__") "__get__") (some (some (.builtin "getset_descriptor.__get__"))) && (decide (takesIn K (.builtin "object.__class__") = some true) && (decide (mroIn K (ga K x) (.type "object") = some true) &&
  ((["int", "bool", "str", "tuple", "list", "dict"].all fun T => decide (kitOne K (.ref (ga K x)) (.type T) = some false)) && ((["NoneType", "int", "bool", "str", "tuple", "list", "dict"].all fun T => decide (kitOne K (.type T) (.ref (ga K x)) = some false)) && decide (kitOne K (.ref (ga K x)) (.ref (ga K x)) = some true))))))
structure InsC (K : PySem.W.Frag) (C : Addr) : Prop where
  ha : findIn K (.ref C) "__class__" = some (some (.builtin "object.__class__"))
  hn : specialIn K (.builtin "object.__class__") "__get__" = some (some (.builtin "getset_descriptor.__get__"))
  htk : takesIn K (.builtin "object.__class__") = some true
  hm : mroIn K C (.type "object") = some true
  ty : ∀ T ∈ ["int", "bool", "str", "tuple", "list", "dict"], kitOne K (.ref C) (.type T) = some false
  no : ∀ T ∈ ["NoneType", "int", "bool", "str", "tuple", "list", "dict"], kitOne K (.type T) (.ref C) = some false
  self : kitOne K (.ref C) (.ref C) = some true
theorem ins_ok {K : PySem.W.Frag} {x : Str} (h : insB K x = true) : InsC K (ga K x) := by
  unfold insB at h
  obtain ⟨h1, h⟩ := ba h
  obtain ⟨h2, h⟩ := ba h
  obtain ⟨h3, h⟩ := ba h
  obtain ⟨h4, h⟩ := ba h
  obtain ⟨h5, h⟩ := ba h
  obtain ⟨h6, h7⟩ := ba h
  exact ⟨eqO_ok h1, eqO_ok h2, of_decide_eq_true h3, of_decide_eq_true h4, fun T m => of_decide_eq_true (List.all_eq_true.mp h5 T m), fun T m => of_decide_eq_true (List.all_eq_true.mp h6 T m), of_decide_eq_true h7⟩
/-- errors as values: what isinstance asks of them; all pairs of the names ek -/
def ekB (K : PySem.W.Frag) (ek : List Str) (x : Str) : Bool :=
  eqO (findIn K (.ref (ga K x)) "__class__") (some (some (.builtin "object.__class__"))) && (eqO (specialIn K (.builtin "object.__class__") "__get__") (some (some (.builtin "getset_descriptor.__get__"))) && (decide (takesIn K (.builtin "object.__class__") = some true) && (decide (mroIn K (ga K x) (.type "object") = some true) &&
  ((ek.all fun y => decide (kitOne K (.ref (ga K x)) (.ref (ga K y)) = some (decide (x = y) || decide (y = "OweError")))) && decide (kitOne K (.ref (ga K x)) (.type "ValueError") = some true)))))
structure EkC (K : PySem.W.Frag) (ek : List Str) (x : Str) : Prop where
  ha : findIn K (.ref (ga K x)) "__class__" = some (some (.builtin "object.__class__"))
  hn : specialIn K (.builtin "object.__class__") "__get__" = some (some (.builtin "getset_descriptor.__get__"))
  htk : takesIn K (.builtin "object.__class__") = some true
  hm : mroIn K (ga K x) (.type "object") = some true
  kit : ∀ y ∈ ek, kitOne K (.ref (ga K x)) (.ref (ga K y)) = some (decide (x = y) || decide (y = "OweError"))
  ve : kitOne K (.ref (ga K x)) (.type "ValueError") = some true
theorem ek_ok {K : PySem.W.Frag} {ek : List Str} {x : Str} (h : ekB K ek x = true) : EkC K ek x := by
  unfold ekB at h
  obtain ⟨h1, h⟩ := ba h
  obtain ⟨h2, h⟩ := ba h
  obtain ⟨h3, h⟩ := ba h
  obtain ⟨h4, h⟩ := ba h
  obtain ⟨h5, h6⟩ := ba h
  exact ⟨eqO_ok h1, eqO_ok h2, of_decide_eq_true h3, of_decide_eq_true h4, fun T m => of_decide_eq_true (List.all_eq_true.mp h5 T m), of_decide_eq_true h6⟩
def asW (g : Addr → Option Obj) (n : Nat) : List Addr := asD g n ++ [cStatics, sysModules]
abbrev AlW : Type := AlD × Bool × OwW
def obsW (fa : List Fa) (fn : List DefD) (ex ic ek : List Str) (xm : List (Str × Str × Bool)) (file : Str) (K : PySem.W.Frag) : AlW := (obsD fa fn K, (ex.all (errB K) && (ic.all (insB K) && (ek.all (ekB K ek) && xm.all fun q => (Fa.exm q.1 q.2.1 q.2.2).ok K))) && oweB K file, oweW K)
def valW (fn : List DefD) (ow : OwW) : AlW := (valD fn, true, ow)
structure SaysW (fa : List Fa) (fn : List DefD) (ex ic ek : List Str) (xm : List (Str × Str × Bool)) (file : Str) (ow : OwW) (K : PySem.W.Frag) : Prop where
  d : SaysD fa fn K
  e : ex.all (errB K) = true
  i : ic.all (insB K) = true
  k : ek.all (ekB K ek) = true
  x : (xm.all fun q => (Fa.exm q.1 q.2.1 q.2.2).ok K) = true
  b : oweB K file = true
  w : oweW K = ow
def obsWG (n : Nat) (fa : List Fa) (fn : List DefD) (ex ic ek : List Str) (xm : List (Str × Str × Bool)) (file : Str) (g : Addr → Option Obj) : AlW := obsW fa fn ex ic ek xm file (frG g (asW g n))
theorem saysW_of {fa : List Fa} {fn : List DefD} {ex ic ek : List Str} {xm : List (Str × Str × Bool)} {file : Str} {ow : OwW} {K : PySem.W.Frag} (e : obsW fa fn ex ic ek xm file K = valW fn ow) : SaysW fa fn ex ic ek xm file ow K := by
  have e1 := congrArg (fun z : AlW => z.1) e
  have e2 : ((ex.all (errB K) && (ic.all (insB K) && (ek.all (ekB K ek) && xm.all fun q => (Fa.exm q.1 q.2.1 q.2.2).ok K))) && oweB K file) = true := congrArg (fun z : AlW => z.2.1) e
  have e3 := congrArg (fun z : AlW => z.2.2) e
  obtain ⟨h1, h2⟩ := ba e2
  obtain ⟨h3, h4⟩ := ba h1
  obtain ⟨h5, h6⟩ := ba h4
  obtain ⟨h7, h8⟩ := ba h6
  exact ⟨e1, h3, h5, h7, h8, h2, e3⟩
def hookW (n : Nat) (fa : List Fa) (fn : List DefD) (ex ic ek : List Str) (xm : List (Str × Str × Bool)) (file : Str) (ow : OwW) : PySem.W.Hook where
  α := AlW
  obs := fun s => obsWG n fa fn ex ic ek xm file s.heap.get?
  val := fun _ => valW fn ow
  says := fun _ h => ∃ K : PySem.W.Frag, K.In h ∧ SaysW fa fn ex ic ek xm file ow K
  of := fun _ _ e => ⟨_, frG_in, saysW_of e⟩
  keeps := fun _ _ _ ⟨K, hK, c⟩ k => ⟨K, PySem.W.Frag.In.keeps hK k, c⟩
theorem obsWG_eq {n : Nat} {fa : List Fa} {fn : List DefD} {ex ic ek : List Str} {xm : List (Str × Str × Bool)} {file : Str} {ow : OwW} {g : Addr → Option Obj} {s : Shared} (h : ∀ a, g a = s.heap.get? a) : obsWG n fa fn ex ic ek xm file g = (hookW n fa fn ex ic ek xm file ow).obs s := by
  have e : g = s.heap.get? := funext h
  rw [e] <;> rfl
section
variable {fa : List Fa} {fn : List DefD} {ex ic ek : List Str} {xm : List (Str × Str × Bool)} {file : Str} {ow : OwW} {K : PySem.W.Frag}
theorem SaysW.err (c : SaysW fa fn ex ic ek xm file ow K) (i : Nat) {x : Str} (h : ex[i]? = some x := by rfl) : OweX.Cls K (oD K) (oI K) (ga K x) := err_ok (List.all_eq_true.mp c.e x (List.mem_of_getElem? h))
theorem SaysW.ins (c : SaysW fa fn ex ic ek xm file ow K) (i : Nat) {x : Str} (h : ic[i]? = some x := by rfl) : InsC K (ga K x) := ins_ok (List.all_eq_true.mp c.i x (List.mem_of_getElem? h))
theorem SaysW.ekc (c : SaysW fa fn ex ic ek xm file ow K) (i : Nat) {x : Str} (h : ek[i]? = some x := by rfl) : EkC K ek x := ek_ok (List.all_eq_true.mp c.k x (List.mem_of_getElem? h))
theorem SaysW.exm (c : SaysW fa fn ex ic ek xm file ow K) (i : Nat) {x y : Str} {b : Bool} (h : xm[i]? = some (x, y, b) := by rfl) : PySem.W.exmOne K (.ref (ga K x)) (.ref (ga K y)) = some b :=
  of_decide_eq_true (List.all_eq_true.mp c.x (x, y, b) (List.mem_of_getElem? h))
end
end He

namespace Nd
open PySem L2 PyProof.Rows
section
variable {K : PySem.W.Frag} {m : Md} {E : XK} {δ : List (Option Pd)} {ta tb tc te : TE} {t u : TT} {P R S T : Pd} {t1 t2 : TS} {O : Ou} {C : Addr}
/-- e raises C(v), P tells of v; W: what is wanted then, at the slots -/
def EvX (m : Md) (te : TE) (δ : List (Option Pd)) (W : WX) (C : Addr) (P : Pd) : Prop :=
  ∀ σ G H, Sl G σ δ → Cn m G H → (∀ d v G' H', Go m G H G' H' → Fl m d v P G' H' → W (.ref C) (some d) σ H') → ∀ Q, te σ H Q
abbrev WO (E : XK) : WX := fun cls d _ H => E cls d H
theorem ex_call {F : Md → List Pd → Oc → Prop} {tA : TA} {Ps : List Pd} (h : EvA m tA δ Ps) (hf : F m Ps (.exc C P)) : EvX m (tCall (spF F) [] E tA) δ (WO E) C P := fun σ G H s c k Q =>
  h σ G H s c _ fun vs G1 H1 g1 p1 => by
    rw [List.append_nil]
    exact ⟨m, G1, Ps, .exc C P, hf, g1.cn c, p1, fun d v G2 H2 g2 f => k d v G2 H2 (g1.trans g2) f⟩
theorem ex_callS {F : Md → List Pd → Oc → Prop} {W : WX} {tA : TA} {Ps : List Pd} (h : EvA m tA δ Ps) (hf : F m Ps (.exc C P)) : EvX m (tCallS (spF F) (WE W) tA) δ W C P := fun σ G H s c k Q =>
  h σ G H s c _ fun vs G1 H1 g1 p1 => ⟨m, G1, Ps, .exc C P, hf, g1.cn c, p1, fun d v G2 H2 g2 f => k d v G2 H2 (g1.trans g2) f⟩
theorem ev_callS {F : Md → List Pd → Oc → Prop} {W : WX} {tA : TA} {Ps : List Pd} (h : EvA m tA δ Ps) (hf : F m Ps (.ret S)) : EvD m (tCallS (spF F) (WE W) tA) δ S := fun σ G H s c Q q =>
  h σ G H s c _ fun vs G1 H1 g1 p1 => ⟨m, G1, Ps, .ret S, hf, g1.cn c, p1, fun v G2 H2 g2 p2 => q v G2 H2 (g1.trans g2) p2⟩
theorem ex_meth {F : Md → List Pd → Oc → Prop} {Co : Addr} {ps : List (Str × Pd)} {mn : Str} {tA : TA} {Ps : List Pd} (h : EvD m ta δ (obj Co ps)) (hl : ps.lookup mn = none) (ha : EvA m tA δ Ps) (hf : F m (obj Co ps :: Ps) (.exc C P)) :
    EvX m (tMeth Co mn (spF F) [] E ta tA) δ (WO E) C P := fun σ G H s c k Q =>
  h σ G H s c _ fun x G1 H1 g1 p1 => by
    obtain ⟨a, dx, fs, rfl, ea, fl⟩ := p1
    have hl2 : fs.lookup mn = none := by
      have z := fl mn
      rw [hl] at z
      exact z
    refine ⟨a, dx, fs, rfl, g1.gh _ _ ea, hl2, ha σ G1 H1 (s.mono g1.gg) (g1.cn c) _ fun vs G2 H2 g2 p2 => ?_⟩
    rw [List.append_nil]
    exact ⟨m, G2, _, .exc C P, hf, g2.cn (g1.cn c), .cons ((obj Co ps).mono _ _ _ ⟨a, dx, fs, rfl, ea, fl⟩ g2.gg) p2, fun d v G3 H3 g3 f => k d v G3 H3 ((g1.trans g2).trans g3) f⟩
theorem bl_dropX (h : EvX m te δ (WO E) C P) (k : O.ex C P) : Bl m E (tSeq (tDrop te) t2) δ O := fun σ G H D s c kx => h σ G H s c (fun d v G' H' g f => kx.ex C P d v G' H' k g f) _
theorem bl_dropX1 (h : EvX m te δ (WO E) C P) (k : O.ex C P) : Bl m E (tDrop te) δ O := fun σ G H D s c kx => h σ G H s c (fun d v G' H' g f => kx.ex C P d v G' H' k g f) _
theorem bl_retX (h : EvX m te δ (WO E) C P) (k : O.ex C P) : Bl m E (tRet te) δ O := fun σ G H D s c kx => h σ G H s c (fun d v G' H' g f => kx.ex C P d v G' H' k g f) _
theorem bl_setX {i : Nat} (h : EvX m te δ (WO E) C P) (k : O.ex C P) : Bl m E (tSeq (tAsg te (gName i)) t2) δ O := fun σ G H D s c kx => h σ G H s c (fun d v G' H' g f => kx.ex C P d v G' H' k g f) _
theorem fl_new {G H : Hp} {d : Addr} {v : V} (c : Cn m G H) (hd : H d = none) (p : P.φ v G) : Go m G H G (upd H d (.xd [(("what" : Str), v)])) ∧ Fl m d v P G (upd H d (.xd [(("what" : Str), v)])) := by
  have s : Same H (upd H d (.xd [(("what" : Str), v)])) := fun b o e => by rw [upd_ne (ne_of_none e hd)]; exact e
  refine ⟨Go.same c s, ?_, Md.fresh c.iv hd, upd_same, p⟩
  cases q : G d with
  | none => rfl
  | some o => rw [c.gh d o q] at hd; cases hd
/-- raise C(e) -/
theorem bl_raise {tA : TA} (h : EvA m tA δ [P]) (k : O.ex C P) : Bl m E (tRaiseOwe C (WO E) tA) δ O := fun σ G H D s c kx =>
  h σ G H s c _ fun vs G1 H1 g1 p1 => by
    obtain ⟨v, rfl, p⟩ := all2_one p1
    refine ⟨v, rfl, fun d hd => ?_⟩
    obtain ⟨g2, f⟩ := fl_new (g1.cn c) hd p
    exact kx.ex C P d v G1 _ k (g1.trans g2) f
theorem bl_raiseS {tA : TA} (h : EvA m tA δ [P]) (k : O.ex C P) : Bl m E (tSeq (tRaiseOwe C (WO E) tA) t2) δ O := fun σ G H D s c kx => bl_raise h k σ G H D s c kx
/-- while t: body; rest. Iv k tells the slots where at most k turns are left -/
theorem bl_while {tb t3 : TS} (Iv : Nat → List (Option Pd) → Prop) (k0 : Nat) (h0 : Iv k0 δ)
    (hs : ∀ k d, Iv k d → ∃ b, EvB m t d b ∧ (b = true → Bl m E tb d { nx := fun d' => ∃ k', k' < k ∧ Iv k' d', ct := fun d' => ∃ k', k' < k ∧ Iv k' d', rt := O.rt, bk := fun d' => Bl m E t3 d' O, ex := O.ex }) ∧ (b = false → Bl m E t3 d O)) :
    Bl m E (tSeq (tWhile t tb) t3) δ O := fun σ G H D s c kx => by
  refine ⟨fun k σ' H' => ∃ d G', Go m G H G' H' ∧ Sl G' σ' d ∧ Iv k d, ⟨k0, δ, G, Go.refl c, s, h0⟩, ?_⟩
  rintro k σ' H' ⟨d, G', g', s', iv⟩
  obtain ⟨b, hb, h1, h2⟩ := hs k d iv
  refine hb σ' G' H' s' (g'.cn c) _ fun G2 H2 g2 => ?_
  have gg := g'.trans g2
  cases b with
  | true =>
    rw [if_pos rfl]
    refine ⟨fun σ3 H3 => ∃ k', k' < k ∧ ∃ d3 G3, Go m G H G3 H3 ∧ Sl G3 σ3 d3 ∧ Iv k' d3, fun σ3 H3 ⟨k', e, z⟩ => ⟨k', e, z⟩, ?_⟩
    refine h1 rfl σ' G2 H2 _ (s'.mono g2.gg) (gg.cn c) ⟨?_, (kx.go gg).rt, ?_, ?_, (kx.go gg).ex⟩
    · rintro d3 σ3 G3 H3 ⟨k', e, iv3⟩ g3 s3
      exact ⟨k', e, d3, G3, gg.trans g3, s3, iv3⟩
    · exact fun d3 σ3 G3 H3 a g3 s3 => a σ3 G3 H3 D s3 (g3.cn (gg.cn c)) ((kx.go gg).go g3)
    · rintro d3 σ3 G3 H3 ⟨k', e, iv3⟩ g3 s3
      exact ⟨k', e, d3, G3, gg.trans g3, s3, iv3⟩
  | false =>
    rw [if_neg Bool.false_ne_true]
    exact h2 rfl σ' G2 H2 D (s'.mono g2.gg) (gg.cn c) (kx.go gg)
def InX (m : Md) (Co a dx : Addr) (E : XK) (ts : TS) (δ : List (Option Pd)) (ps : List (Str × Pd)) (X : Addr → Pd → Prop) : Prop :=
  ∀ (σ : L2.St) (G H : Hp) (D : Ends), Sl G σ δ → Cn1 m Co a dx G H ps → (∀ Ce P d v G' H', X Ce P → Go (m.opn a) G H G' H' → Fl m d v P G' H' → E (.ref Ce) (some d) H') → ts D σ H
section
variable {Co a dx : Addr} {ps : List (Str × Pd)} {X : Addr → Pd → Prop}
theorem ix_if {b : Bool} (h : ∀ fs, EvB (m.hold a (.ins Co dx fs)) t δ b) (k1 : b = true → InX m Co a dx E (tSeq t1 t2) δ ps X) (k2 : b = false → InX m Co a dx E t2 δ ps X) : InX m Co a dx E (tSeq (tIfS t t1 tNext) t2) δ ps X := fun σ G H D s c ke => by
  obtain ⟨fs, e, l, fl, ch⟩ := c.hold
  refine h fs σ G H s ch _ fun G1 H1 g => ?_
  cases b with
  | true => exact k1 rfl σ G1 H1 D (s.mono g.gg) (c.go e l fl g) (fun Ce P d v G' H' x g' => ke Ce P d v G' H' x ((Go.opn g).trans g'))
  | false => exact k2 rfl σ G1 H1 D (s.mono g.gg) (c.go e l fl g) (fun Ce P d v G' H' x g' => ke Ce P d v G' H' x ((Go.opn g).trans g'))
theorem ix_set {i : Nat} (h : ∀ fs, EvD (m.hold a (.ins Co dx fs)) te δ P) (k : InX m Co a dx E t2 (δ.set i (some P)) ps X) : InX m Co a dx E (tSeq (tAsg te (gName i)) t2) δ ps X := fun σ G H D s c ke => by
  obtain ⟨fs, e, l, fl, ch⟩ := c.hold
  refine h fs σ G H s ch _ fun v G1 H1 g p => ?_
  exact k _ G1 H1 D ((s.mono g.gg).set p) (c.go e l fl g) (fun Ce P d v G' H' x g' => ke Ce P d v G' H' x ((Go.opn g).trans g'))
theorem ix_raise {tA : TA} (h : ∀ fs, EvA (m.hold a (.ins Co dx fs)) tA δ [P]) (k : X C P) : InX m Co a dx E (tSeq (tRaiseOwe C (WO E) tA) t2) δ ps X := fun σ G H D s c ke => by
  obtain ⟨fs, e, l, fl, ch⟩ := c.hold
  refine h fs σ G H s ch _ fun vs G1 H1 g1 p1 => ?_
  obtain ⟨v, rfl, p⟩ := all2_one p1
  refine ⟨v, rfl, fun d hd => ?_⟩
  obtain ⟨g2, f⟩ := fl_new (g1.cn ch) hd p
  exact ke C P d v G1 _ k ((Go.opn g1).trans (Go.opn g2)) ⟨f.g, fun z => f.nd (.inl z), f.at_, f.p⟩
end
theorem init_okX {P : Program} {w : World} {mg : Str → Option Value} {base : Heap} {CX : CXT} {x qual : Str} {params : Arguments} {body : List Stmt} {scope : Scope} {dvs : List V} {kws : List (Str × V)} {f Co : Addr} {fd : FuncData} {N ps : List Str} {k : Nat}
    {F : Md → List Pd → Oi → Prop} (Fn : FunD K x qual params body scope dvs kws f fd) (Sc : FnScope N ps scope) (hlen : ∀ m Ps O, F m Ps O → Ps.length + 1 = ps.length)
    (hb : ∀ (cdv : Value) (A : Around) (outer : List Env) (s : Shared) (H : Hp) (E : XK), Room k (A.deeper (envOfC qual scope s.heap.objs.size f cdv)) →
      ∃ t, PSs (cxOf CX P w K mg base N qual scope f cdv A outer s H E) body t ∧
        ∀ m Ps O a dx, F m Ps O → (match O with | .ret fin => In m Co a dx E t (some (vv (.ref a)) :: (Ps.map some ++ List.replicate (N.length - (Ps.length + 1)) none)) [] fin (fun _ _ => False) | .exc Ce Pe => InX m Co a dx E t (some (vv (.ref a)) :: (Ps.map some ++ List.replicate (N.length - (Ps.length + 1)) none)) [] (fun C' P' => C' = Ce ∧ P' = Pe))) :
    FnOk P w K mg base CX (k + 1) f fd ps (spI Co F) := by
  refine Fn.ok Sc (fun vs H Q E h => ?_) (fun cdv A outer s H vs Q E hr h => ?_)
  · obtain ⟨m, G, a, dx, ws, Ps, O, rfl, hf, c, al, _⟩ := h
    rw [List.length_cons, al.length, hlen m Ps O hf]
  · obtain ⟨t, pt, bl⟩ := hb cdv A outer s H E hr
    refine ⟨t, pt, ?_⟩
    obtain ⟨m, G, a, dx, ws, Ps, O, rfl, hf, c, al, q⟩ := h
    have b := bl m Ps O a dx hf
    have st := sl_start (N := N) (All2.cons (P := vv (.ref a)) (rfl : V.ref a = V.ref a) al)
    cases O with
    | ret fin => exact b _ G H _ st c (fun σ' G' H' g c' => q G' H' g c') (fun _ _ _ _ _ _ z => z.elim)
    | exc Ce Pe => exact b _ G H _ st c (fun C' P' d v G' H' z g f => by obtain ⟨rfl, rfl⟩ := z; exact q d v G' H' g f)
/-- C(..) raises -/
theorem mkX_raw {F : Md → List Pd → Oi → Prop} {Co : Addr} {Ps : List Pd} {vs : List V} {G1 H1 : Hp} {Q : VK} (c1 : Cn m G1 H1) (p : All2 G1 vs Ps) (hf : F m Ps (.exc C P)) (q : ∀ d v G' H', Go m G1 H1 G' H' → Fl m d v P G' H' → E (.ref C) (some d) H')
    (x dx : Addr) (hx : H1 x = none) (hdx : H1 dx = none) (hne : dx ≠ x) : spI Co F (.ref x :: vs) (upd (upd H1 dx (.own x)) x (.ins Co dx [])) Q E := by
  have s2 : Same H1 (upd (upd H1 dx (.own x)) x (.ins Co dx [])) := fun b o e => by
    rw [upd_ne (ne_of_none e hx), upd_ne (ne_of_none e hdx)]; exact e
  have g1x : G1 x = none := by
    cases z : G1 x with
    | none => rfl
    | some o => rw [c1.gh x o z] at hx; cases hx
  refine ⟨m, G1, x, dx, vs, Ps, .exc C P, rfl, hf, ⟨⟨c1.gh.trans s2, Md.same c1.iv s2, c1.nm⟩, Md.fresh c1.iv hx, g1x, [], upd_same, rfl, fun f => rfl⟩, p, fun d v G' H' g' f => q d v G' H' ⟨g'.gg, g'.gh, fun b o z n => ?_, fun b o z n => ?_, g'.iv.1⟩ f⟩
  · have h2 := g'.fr b o z n
    cases k : H1 b with
    | none => rfl
    | some o' => rw [s2 b o' k] at h2; cases h2
  · exact g'.r b o (fun k => k.elim z (ne_of_none n hx)) (s2 b o n)
theorem ex_make {F : Md → List Pd → Oi → Prop} {Co : Addr} {tA : TA} {Ps : List Pd} (ha : EvA m tA δ Ps) (hf : F m Ps (.exc C P)) : EvX m (tMake Co (spI Co F) [] E tA) δ (WO E) C P := fun σ G H s c k Q =>
  ha σ G H s c _ fun vs G1 H1 g p x dx hx hdx hne => by
    rw [List.append_nil]
    exact mkX_raw (g.cn c) p hf (fun d v G' H' g' f => k d v G' H' (g.trans g') f) x dx hx hdx hne
end
/-- the slot that holds the caught error (at a); its what, v, is told of by P -/
def excD (a : Addr) (v : V) (P : Pd) : Pd := ⟨fun x G => x = .ref a ∧ P.φ v G, fun _ _ _ h s => ⟨h.1, P.mono _ _ _ h.2 s⟩⟩
section
variable {K : PySem.W.Frag} {m : Md} {E : XK} {δ : List (Option Pd)} {ta tb tc te : TE} {t u : TT} {P R S T : Pd} {t1 t2 : TS} {O : Ou} {C : Addr}
theorem ev_what {a d : Addr} {v : V} {i : Nat} (h : δ[i]? = some (some (excD a v P))) : EvD (m.hold d (.xd [(("what" : Str), v)])) (tWhat C a (.ref C) (some d) (tVar i)) δ P := fun σ G H s c Q q => by
  obtain ⟨x, hx, rfl, p⟩ := s.2 i _ h
  exact ⟨_, hx, rfl, rfl, d, v, rfl, c.iv.2, q v G H (Go.refl c) p⟩
theorem Fl.cn {d : Addr} {v : V} {G H : Hp} (f : Fl m d v P G H) (c : Cn m G H) : Cn (m.hold d (.xd [(("what" : Str), v)])) G H :=
  ⟨c.gh, ⟨c.iv, f.at_⟩, fun a h => h.elim (c.nm a) fun z => by rw [z]; exact f.g⟩
/-- the suite behind the caught error -/
def Su (m : Md) (E : XK) (C : Addr) (P : Pd) (i : Nat) (ts : Addr → Value → Option Addr → TS) (δ : List (Option Pd)) (O : Ou) : Prop :=
  ∀ (a d : Addr) (v : V), Bl (m.hold d (.xd [(("what" : Str), v)])) E (ts a (.ref C) (some d)) (δ.set i (some (excD a v P))) { nx := fun δ' => O.nx (δ'.set i none), rt := O.rt, bk := fun δ' => O.bk (δ'.set i none), ct := fun δ' => O.ct (δ'.set i none) }
theorem Sl.clear {G : Hp} {σ : L2.St} (h : Sl G σ δ) (i : Nat) : Sl G (σ.set i none) (δ.set i none) := by
  refine ⟨by rw [List.length_set, List.length_set]; exact h.1, fun j R e => ?_⟩
  by_cases hj : i = j
  · subst hj
    by_cases hi : i < δ.length
    · rw [List.getElem?_set_self hi] at e; cases e
    · rw [List.getElem?_eq_none (by rw [List.length_set]; omega)] at e; cases e
  · rw [List.getElem?_set_ne hj] at e
    obtain ⟨v, q, p⟩ := h.2 j R e
    exact ⟨v, by rw [List.getElem?_set_ne hj]; exact q, p⟩
/-- try: x (which raises C(..)) / except C as e: suite -/
theorem bl_tryX {i : Nat} {tb : WX → TS} {ts : Addr → Value → Option Addr → TS} {Wout : WX} {c : Value} (hb : ∀ W D σ G H, Sl G σ δ → Cn m G H → (∀ d v G' H', Go m G H G' H' → Fl m d v P G' H' → W (.ref C) (some d) σ H') → tb W D σ H)
    (hm : PySem.W.exmOne K (.ref C) c = some true) (hs : Su m E C P i ts δ O) : Bl m E (fun D σ H => tb (wAs K c i ts Wout D) D σ H) δ O := fun σ G H D s cn kx => by
  refine hb _ D σ G H s cn fun d v G' H' g f => ⟨true, hm, fun _ a ha => ?_, fun z => by cases z⟩
  have c1 := f.cn (g.cn cn)
  have sl : Sl G' (σ.set i (some (.ref a))) (δ.set i (some (excD a v P))) := (s.mono g.gg).set ⟨rfl, f.p⟩
  have kk := kx.go g
  refine hs a d v _ G' H' _ sl c1 ⟨fun δ' σ' G2 H2 hn g2 s2 => kk.nx _ _ G2 H2 hn (Go.unhold g2 f.at_) (s2.clear i), fun S w G2 H2 hr g2 p2 => kk.rt S w G2 H2 hr (Go.unhold g2 f.at_) p2, fun δ' σ' G2 H2 hn g2 s2 => kk.bk _ _ G2 H2 hn (Go.unhold g2 f.at_) (s2.clear i),
    fun δ' σ' G2 H2 hn g2 s2 => kk.ct _ _ G2 H2 hn (Go.unhold g2 f.at_) (s2.clear i), fun _ _ _ _ _ _ z => z.elim⟩
/-- try: x (which raises nothing) / .. -/
theorem bl_tryN {i : Nat} {tb : WX → TS} {ts : Addr → Value → Option Addr → TS} {Wout : WX} {c : Value} (hb : ∀ W, Bl m E (tb W) δ O) : Bl m E (fun D σ H => tb (wAs K c i ts Wout D) D σ H) δ O := fun σ G H D s cn kx => hb _ σ G H D s cn kx
end
end Nd

namespace L2
open PySem PySem.Spec PyProof.Rows
section
variable {X : Cx} {CX : CXT} {k n : Nat} {f C : Addr} {fd : FuncData} {ps ks : List Str} {sp : Sp} {E : St → XK} {x mn : Str} {p pos apos : Pos} {e o : Expr} {es : List Expr} {kws : List Keyword} {ta : TE} {t tk : TA} {g : List Value → List Value → List Value} {gV : List V → List V → List V}
theorem run_callS {pins : List (Addr × Obj)} {σ : St} {H : Hp} {s : Shared} {Q : VK} {us ws : List Value} {vs zs : List V} (F : FnOk X.prog X.w X.K X.mg X.base CX k f fd ps sp) (hr : Room k X.A) (hb : KBn X.K fd ps n ks g gV) (hx : PassesAt CX X σ (E σ))
    (I : Inv X pins σ H s) (r : Vals vs us) (rz : Vals zs ws) (l1 : vs.length = n) (l2 : zs.length = ks.length) (h : sp (gV vs zs) H Q (E σ)) : wpAny (model X.prog X.w) X.A (call (.ref f) us (ks.zip ws)) (EP X pins σ Q) X.xe s := by
  refine wpAny_call (codeAny_mono (F.run X.A X.stack s H ⟨us, ks.zip ws⟩ (g us ws) (gV vs zs) Q (E σ) hr I.env0 (hb.to s us ws I.kIn (r.length.symm.trans l1) (rz.length.symm.trans l2)) (hb.rel r rz) h) fun r s' hq => ?_)
  cases r with
  | error e => exact hx pins H s e s' I hq
  | ok fl =>
    cases fl with
    | ret u => exact I.after hq
    | _ => exact False.elim hq
theorem run_mkS {pins : List (Addr × Obj)} {σ : St} {H : Hp} {s : Shared} {Q : VK} {us ws : List Value} {vs zs : List V} (M : Mk X.K C f) (F : FnOk X.prog X.w X.K X.mg X.base CX k f fd ps sp) (hr : Room (k + 1) X.A) (hb : KBn X.K fd ps (n + 1) ks g gV)
    (hx : PassesAt CX X σ (E σ)) (I : Inv X pins σ H s) (r : Vals vs us) (rz : Vals zs ws) (l1 : vs.length = n) (l2 : zs.length = ks.length)
    (h : ∀ x dx, H x = none → H dx = none → dx ≠ x → sp (gV (.ref x :: vs) zs) (upd (upd H dx (.own x)) x (.ins C dx [])) (fun v H2 => v = .non ∧ Q (.ref x) H2) (E σ)) :
    wpAny (model X.prog X.w) X.A (call (.ref C) us (ks.zip ws)) (EP X pins σ Q) X.xe s := by
  let z := s.heap.objs.size
  have hq := h (z + 1) z (I.hok.fresh (Nat.le_succ _)) (I.hok.fresh (Nat.le_refl _)) (Nat.ne_of_lt (Nat.lt_succ_self _))
  have I2 := Inv.made (C := C) I
  have r1 : Vals (V.ref (z + 1) :: vs) (Value.ref (z + 1) :: us) := .cons rfl r
  have e1 : (Value.ref (z + 1) :: us).length = n + 1 := r1.length.symm.trans (congrArg Nat.succ l1)
  refine wpAny_call (make_map (f := f) I.kIn M.makes M.init (beq_iff_eq.mp M.fn) (codeAny_mono (F.run _ X.stack _ _ ⟨Value.ref (z + 1) :: us, ks.zip ws⟩ (g (Value.ref (z + 1) :: us) ws) _ _ (E σ) (hr.make C us (ks.zip ws))
    (I2.env0.make C us (ks.zip ws)) (hb.to _ _ ws I2.kIn e1 (rz.length.symm.trans l2)) (hb.rel r1 rz) hq) fun r s' hq' => ?_))
  cases r with
  | error e => exact hx pins _ _ e s' I2 hq'
  | ok fl =>
    cases fl with
    | ret u =>
      obtain ⟨v, H', I3, rv, ev, q3⟩ := I2.after hq'
      subst ev
      exact ⟨rv, ⟨V.ref (z + 1), H', I3, rfl, q3⟩⟩
    | _ => exact False.elim hq'
/-- f(e, .., k = v, ..) -/
def tCallKS (n m : Nat) (sp : Sp) (gV : List V → List V → List V) (E : St → XK) (t tk : TA) : TE := fun σ H Q => t σ H fun vs H1 => tk σ H1 fun zs H2 => vs.length = n ∧ zs.length = m ∧ sp (gV vs zs) H2 Q (E σ)
/-- C(e, .., k = v, ..) -/
def tMakeS (C : Addr) (n m : Nat) (sp : Sp) (gV : List V → List V → List V) (E : St → XK) (t tk : TA) : TE := fun σ H Q => t σ H fun vs H1 => tk σ H1 fun zs H2 => vs.length = n ∧ zs.length = m ∧
  ∀ x dx, H2 x = none → H2 dx = none → dx ≠ x → sp (gV (.ref x :: vs) zs) (upd (upd H2 dx (.own x)) x (.ins C dx [])) (fun v H3 => v = .non ∧ Q (.ref x) H3) (E σ)
/-- o.m(e, .., k = v, ..) -/
def tMtS (C : Addr) (mn : Str) (n m : Nat) (sp : Sp) (gV : List V → List V → List V) (E : St → XK) (ta : TE) (t tk : TA) : TE := fun σ H Q => ta σ H fun x H0 => ∃ a dx fs, x = .ref a ∧ H0 a = some (.ins C dx fs) ∧ fs.lookup mn = none ∧
  t σ H0 fun vs H1 => tk σ H1 fun zs H2 => vs.length = n ∧ zs.length = m ∧ sp (gV (x :: vs) zs) H2 Q (E σ)
theorem pe_mkP (M : Mk X.K C f) (F : FnOk X.prog X.w X.K X.mg X.base CX k f fd ps sp) (hr : Room (k + 1) X.A) (hg : Gl X x) (hm : X.mg x = some (.ref C)) (hb : KBn X.K fd ps (n + 1) [] g gV) (hx : ∀ σ, PassesAt CX X σ (E σ))
    (ha : PA X (e :: es) t) (hdb : (x == ("__debug__" : Str)) = false := by decide) (he : starEach (e :: es) X.env = (false, eval e X.env) :: starEach es X.env := by rfl) (hpl : (backTo pos (starEach es X.env)).any (·.1) = false := by rfl) :
    PE X (.Call (.Name x p) (e :: es) [] pos) (tMakeS C n 0 sp gV E t tNil) := by
  refine ⟨fun pins s σ H Q I h => ?_⟩
  refine wpAny_Call_Name_kw (ld_glob I hg hm ?_ hdb)
  refine PySem.W.callWith_K (h₀ := X.base) I.ok.mod.kin M.kp (thn (ha.run pos pins s σ H _ I h) fun us s1 ⟨vs, H1, I1, r, l1, _, q⟩ => ⟨I1.kIn, ?_⟩) he hpl
  exact run_mkS (ws := []) (zs := []) M F hr hb (hx σ) I1 r .nil l1 rfl q
theorem pe_mkN (M : Mk X.K C f) (F : FnOk X.prog X.w X.K X.mg X.base CX k f fd ps sp) (hr : Room (k + 1) X.A) (hg : Gl X x) (hm : X.mg x = some (.ref C)) (hb : KBn X.K fd ps (n + 1) ks g gV) (hx : ∀ σ, PassesAt CX X σ (E σ))
    (ha : PA X (e :: es) t) (hkw : PK X kws tk) (hall : (backToKw pos (keywordEach kws X.env)).all (·.1.isSome) = true := by rfl) (hks : (backToKw pos (keywordEach kws X.env)).filterMap (·.1) = ks := by rfl)
    (hdb : (x == ("__debug__" : Str)) = false := by decide) (he : starEach (e :: es) X.env = (false, eval e X.env) :: starEach es X.env := by rfl)
    (hpl : ((backTo pos (starEach (e :: es) X.env)).any (·.1) || (backToKw pos (keywordEach kws X.env)).any (·.1.isNone)) = false := by rfl) :
    PE X (.Call (.Name x p) (e :: es) kws pos) (tMakeS C n ks.length sp gV E t tk) := by
  refine ⟨fun pins s σ H Q I h => ?_⟩
  refine wpAny_Call_Name_kw (ld_glob I hg hm ?_ hdb)
  refine PySem.W.callWith_KW (h₀ := X.base) I.ok.mod.kin M.kp hall (thn (ha.run pos pins s σ H _ I h) fun us s1 ⟨vs, H1, I1, r, q⟩ => ?_) hpl he
  refine thn (hkw.run pos pins s1 σ H1 _ I1 q) fun ws s2 ⟨zs, H2, I2, rz, l1, l2, q2⟩ => ⟨I2.kIn, ?_⟩
  rw [hks]
  exact run_mkS M F hr hb (hx σ) I2 r rz l1 l2 q2
theorem pe_mkK (M : Mk X.K C f) (F : FnOk X.prog X.w X.K X.mg X.base CX k f fd ps sp) (hr : Room (k + 1) X.A) (hg : Gl X x) (hm : X.mg x = some (.ref C)) (hb : KBn X.K fd ps 1 ks g gV) (hx : ∀ σ, PassesAt CX X σ (E σ)) (hkw : PK X kws tk)
    (hall : (backToKw pos (keywordEach kws X.env)).all (·.1.isSome) = true := by rfl) (hks : (backToKw pos (keywordEach kws X.env)).filterMap (·.1) = ks := by rfl) (hdb : (x == ("__debug__" : Str)) = false := by decide)
    (hpl : ((backTo pos (starEach [] X.env)).any (·.1) || (backToKw pos (keywordEach kws X.env)).any (·.1.isNone)) = false := by rfl) :
    PE X (.Call (.Name x p) [] kws pos) (tMakeS C 0 ks.length sp gV E tNil tk) := by
  refine ⟨fun pins s σ H Q I h => ?_⟩
  refine wpAny_Call_Name_kw (ld_glob I hg hm ?_ hdb)
  refine PySem.W.callWith_KW0 (h₀ := X.base) I.ok.mod.kin M.kp hall ?_ hpl
  refine thn (hkw.run pos pins s σ H _ I h) fun ws s2 ⟨zs, H2, I2, rz, l1, l2, q2⟩ => ⟨I2.kIn, ?_⟩
  rw [hks]
  exact run_mkS (us := []) (vs := []) M F hr hb (hx σ) I2 .nil rz rfl l2 q2
theorem pe_mtP {pl : Sem Bool} (ho : PE X o ta) (c : Cls X.K C) (hm : Meth X.K C mn f) (F : FnOk X.prog X.w X.K X.mg X.base CX k f fd ps sp) (hr : Room k X.A) (hb : KBn X.K fd ps (n + 1) [] g gV) (hx : ∀ σ, PassesAt CX X σ (E σ)) (ha : PA X (e :: es) t)
    (hst : starEach (e :: es) X.env = (false, eval e X.env) :: starEach es X.env := by rfl) (hpl : (backTo pos (starEach es X.env)).any (·.1) = false := by rfl)
    (ht : eval (.Call (.Attribute o mn apos) (e :: es) [] pos) X.env = (do
      let ov ← eval o X.env
      standAt apos.atName
      let (f, first) ← holding [ov] (getMethod ov mn pl)
      callWith pos f first (backTo pos (starEach (e :: es) X.env)) (backToKw pos (keywordEach [] X.env))) := by rfl) :
    PE X (.Call (.Attribute o mn apos) (e :: es) [] pos) (tMtS C mn n 0 sp gV E ta t tNil) := by
  refine ⟨fun pins s σ H Q I h => ?_⟩
  refine PySem.W.methodCall_KW (pl := pl) (thn (ho.run pins s σ H _ I h) fun u s1 ⟨x, H1, I1, rx, a, dx, fs, ex, ea, l, q⟩ => ?_) ht
  subst ex
  obtain rfl : u = Value.ref a := rx
  refine getmeth_ok I1 ea c hm l ?_
  refine PySem.W.callWith_K (first := [.ref a]) (h₀ := X.base) I.ok.mod.kin hm.kp (thn (ha.run pos pins s1 σ H1 _ I1 q) fun us s2 ⟨vs, H2, I2, r, l1, _, q2⟩ => ⟨I2.kIn, ?_⟩) hst hpl
  exact run_callS (us := .ref a :: us) (vs := .ref a :: vs) (ws := []) (zs := []) F hr hb (hx σ) I2 (.cons rfl r) .nil (congrArg Nat.succ l1) rfl q2
theorem pe_mtK {pl : Sem Bool} (ho : PE X o ta) (c : Cls X.K C) (hm : Meth X.K C mn f) (F : FnOk X.prog X.w X.K X.mg X.base CX k f fd ps sp) (hr : Room k X.A) (hb : KBn X.K fd ps 1 ks g gV) (hx : ∀ σ, PassesAt CX X σ (E σ)) (hkw : PK X kws tk)
    (hall : (backToKw pos (keywordEach kws X.env)).all (·.1.isSome) = true := by rfl) (hks : (backToKw pos (keywordEach kws X.env)).filterMap (·.1) = ks := by rfl)
    (hpl : ((backTo pos (starEach [] X.env)).any (·.1) || (backToKw pos (keywordEach kws X.env)).any (·.1.isNone)) = false := by rfl)
    (ht : eval (.Call (.Attribute o mn apos) [] kws pos) X.env = (do
      let ov ← eval o X.env
      standAt apos.atName
      let (f, first) ← holding [ov] (getMethod ov mn pl)
      callWith pos f first (backTo pos (starEach [] X.env)) (backToKw pos (keywordEach kws X.env))) := by rfl) :
    PE X (.Call (.Attribute o mn apos) [] kws pos) (tMtS C mn 0 ks.length sp gV E ta tNil tk) := by
  refine ⟨fun pins s σ H Q I h => ?_⟩
  refine PySem.W.methodCall_KW (pl := pl) (thn (ho.run pins s σ H _ I h) fun u s1 ⟨x, H1, I1, rx, a, dx, fs, ex, ea, l, q⟩ => ?_) ht
  subst ex
  obtain rfl : u = Value.ref a := rx
  refine getmeth_ok I1 ea c hm l ?_
  refine PySem.W.callWith_KW0 (first := [.ref a]) (h₀ := X.base) I.ok.mod.kin hm.kp hall ?_ hpl
  refine thn (hkw.run pos pins s1 σ H1 _ I1 q) fun ws s2 ⟨zs, H2, I2, rz, _, l2, q2⟩ => ⟨I2.kIn, ?_⟩
  rw [hks]
  exact run_callS (us := [.ref a]) (vs := [.ref a]) F hr hb (hx σ) I2 (.cons rfl .nil) rz rfl l2 q2
end
end L2

namespace Nd
open PySem L2 PyProof.Rows
section
variable {K : PySem.W.Frag} {m : Md} {E : XK} {δ : List (Option Pd)} {ta tb tc te : TE} {t u : TT} {P R S T : Pd} {t1 t2 : TS} {O : Ou} {C : Addr}
/-- data, dicts too -/
def dq (K : PySem.W.Frag) (d : PyData) : Pd := ⟨fun v G => Dq K G v d, fun _ _ _ h s => Dq.mono s h⟩
theorem EvD.q {d : PyData} (h : EvD m te δ (dd K d)) : EvD m te δ (dq K d) := h.to fun v G p => Dp.q p
theorem EvD.ofq {d : PyData} (h : EvD m te δ (dq K d)) (n : d.hasDict = false) : EvD m te δ (dd K d) := h.to fun v G p => Dq.p d n p
theorem All2.append {G : Hp} : ∀ {vs ws : List V} {Ps Qs : List Pd}, All2 G vs Ps → All2 G ws Qs → All2 G (vs ++ ws) (Ps ++ Qs)
  | _, _, _, _, .nil, h => h
  | _, _, _, _, .cons a t, h => .cons a (All2.append t h)
theorem All2.take {G : Hp} : ∀ {vs : List V} {Ps : List Pd} (n : Nat), All2 G vs Ps → All2 G (vs.take n) (Ps.take n)
  | _, _, 0, _ => .nil
  | _, _, _ + 1, .nil => .nil
  | _, _, n + 1, .cons h t => .cons h (All2.take n t)
theorem All2.drop {G : Hp} : ∀ {vs : List V} {Ps : List Pd} (n : Nat), All2 G vs Ps → All2 G (vs.drop n) (Ps.drop n)
  | _, _, 0, h => h
  | _, _, _ + 1, .nil => .nil
  | _, _, n + 1, .cons _ t => All2.drop n t
theorem All2.get {G : Hp} : ∀ {vs : List V} {Ps : List Pd} {i : Nat} {P : Pd}, All2 G vs Ps → Ps[i]? = some P → ∃ v, vs[i]? = some v ∧ P.φ v G
  | _, _, _, _, .nil, e => by simp at e
  | _, _, 0, _, .cons h _, e => by simp at e; subst e; exact ⟨_, rfl, h⟩
  | _, _, i + 1, P, .cons _ t, e => by
    obtain ⟨v, h1, h2⟩ := All2.get (i := i) (P := P) t (by simpa using e)
    exact ⟨v, by simpa using h1, h2⟩
theorem all2_dq {G : Hp} : ∀ {vs : List V} {ds : List PyData}, All2 G vs (ds.map (dq K)) → DqAll K G vs ds
  | _, [], .nil => .nil
  | _, _ :: _, .cons h t => .cons h (all2_dq t)
def ls (Ps : List Pd) : Pd := ⟨fun v G => ∃ a vs, v = .ref a ∧ G a = some (.lst vs) ∧ All2 G vs Ps, fun _ _ _ ⟨a, vs, e, h, d⟩ s => ⟨a, vs, e, s _ _ h, d.mono s⟩⟩
theorem ev_ls {tA : TA} {Ps : List Pd} (h : EvA m tA δ Ps) (hl : Ps.length ≤ 100000) : EvD m (tLst tA) δ (ls Ps) := fun σ G H s c Q q =>
  h σ G H s c _ fun vs G1 H1 t1 p1 => by
    refine ⟨Nat.le_trans (by rw [p1.length]; exact hl) (by decide), fun p hp => ?_⟩
    have t2 := Go.new (o := .lst vs) (t1.cn c) hp
    exact q _ _ _ (t1.trans t2) ⟨p, vs, rfl, upd_same, p1.mono t2.gg⟩
theorem ev_lsCat {Ps Qs : List Pd} (ha : EvD m ta δ (ls Ps)) (hb : EvD m tb δ (ls Qs)) (hl : Ps.length + Qs.length ≤ 100000) : EvD m (tOp rCat ta tb) δ (ls (Ps ++ Qs)) := ev_op ha hb fun x y G H c px py Q q => by
  obtain ⟨a, vs, rfl, h1, d1⟩ := px
  obtain ⟨b, ws, rfl, h2, d2⟩ := py
  refine ⟨a, b, vs, ws, rfl, rfl, c.gh _ _ h1, c.gh _ _ h2, Nat.le_trans (by rw [d1.length, d2.length]; exact hl) (by decide), fun p hp => ?_⟩
  have t2 := Go.new (o := .lst (vs ++ ws)) c hp
  exact q _ _ _ t2 ⟨p, _, rfl, upd_same, (d1.append d2).mono t2.gg⟩
def pget (Ps : List Pd) (i : Nat) : Pd := (Ps[i]?).getD (vv .non)
/-- xs[drawn] -/
theorem ev_lsIx {Ps : List Pd} {n : Int} (ha : EvD m ta δ (ls Ps)) (hb : EvD m tb δ (exI K fun d => 0 ≤ d ∧ d < n)) (hn : n = Ps.length) : EvD m (tOp (rIxL K) ta tb) δ (exP (fun i : Nat => i < Ps.length) (pget Ps)) := ev_op ha hb fun x y G H c px ⟨k, hk, py⟩ Q q => by
  cases py
  obtain ⟨a, vs, rfl, h1, d1⟩ := px
  have hlt : k.toNat < Ps.length := by omega
  obtain ⟨v, e, p⟩ := d1.get (i := k.toNat) (List.getElem?_eq_getElem hlt)
  refine ⟨a, vs, k, v, rfl, rfl, .inl (.inl (c.gh _ _ h1)), ?_, q _ G H (Go.refl c) ⟨k.toNat, hlt, ?_⟩⟩
  · unfold L2.atI ixN
    rw [if_pos hk.1, if_pos (by rw [d1.length]; omega)]
    exact e
  · unfold pget
    rw [List.getElem?_eq_getElem hlt]
    exact p
theorem ev_lsSl {tl th : TO} {Ps : List Pd} {lo hi : Option Int} (h : EvD m te δ (ls Ps)) (h1 : EvO m tl δ lo) (h2 : EvO m th δ hi) : EvD m (tSl (rSlL K) te tl th) δ (ls (ndCut Ps lo hi)) := fun σ G H s c Q q =>
  h σ G H s c _ fun x G1 H1 t1 p1 => h1 σ G1 H1 (s.mono t1.gg) (t1.cn c) _ fun G2 H2 t2 => h2 σ G2 H2 ((s.mono t1.gg).mono t2.gg) (t2.cn (t1.cn c)) _ fun G3 H3 t3 => by
    obtain ⟨a, vs, rfl, e, d⟩ := (ls Ps).mono _ _ _ ((ls Ps).mono _ _ _ p1 t2.gg) t3.gg
    have c3 := t3.cn (t2.cn (t1.cn c))
    have t := (t1.trans t2).trans t3
    refine ⟨a, vs, rfl, .inl (.inl (c3.gh _ _ e)), fun p hp => ?_⟩
    have t4 := Go.new (o := .lst (cutV vs lo hi)) c3 hp
    refine q _ _ _ (t.trans t4) ⟨p, _, rfl, upd_same, All2.mono t4.gg ?_⟩
    unfold cutV ndCut
    rw [d.length]
    exact (d.drop _).take _
theorem cb_lenLs {Ps : List Pd} : CbD m (fun xs H Q => ∃ p ys, xs = [V.ref p] ∧ (SqL K H p ys ∨ SqT K H p ys) ∧ Q (.int ys.length) H) [ls Ps] (di K Ps.length) := fun vs G H c a Q q => by
  obtain ⟨v, rfl, b, xs, rfl, e, d⟩ := all2_one a
  exact ⟨b, xs, rfl, .inl (.inl (.inl (c.gh _ _ e))), q _ G H (Go.refl c) (by rw [d.length]; exact .int _)⟩
theorem ls_dq {ds : List PyData} {v : V} {G : Hp} (h : (ls (ds.map (dq K))).φ v G) : (dq K (.list ds)).φ v G := by
  obtain ⟨a, vs, rfl, e, d⟩ := h
  exact .lst (.inl (.inl e)) (all2_dq d)
theorem cb_repr {d : PyData} (hp : ∀ v G, P.φ v G → Dq K G v d) (h1 : d.showable = true) (h2 : d.shown.length ≤ sizeLine) (h3 : d.depth ≤ 100) : CbD m (rRepr K) [P] (dd K (.str d.shown)) := fun vs G H c a Q q => by
  obtain ⟨v, rfl, p⟩ := all2_one a
  exact ⟨v, d, rfl, Dq.mono c.gh (hp v G p), h1, h2, h3, q _ G H (Go.refl c) (.str _)⟩
theorem ev_dict0 : EvD m tDNewK δ (dq K (.dict [])) := fun σ G H s c Q q p hp => q _ _ _ (Go.new c hp) (.dct upd_same rfl .nil)
theorem ev_dictI {i j : Int} : EvD m (tDisp [(tC (.int i), tC (.int j))]) δ (dq K (.dict [(.int i, .int j)])) := fun σ G H s c Q q p hp => by
  refine ⟨upd_same, [(.inl i, .int j)], rfl, (by show 1 ≤ 15; decide), ?_⟩
  rw [upd_upd]
  exact q _ _ _ (Go.new c hp) (.dct upd_same rfl (.cons (.int j) .nil))
/-- what is_integer says of such a value -/
def KindI (K : PySem.W.Frag) (P : Pd) (b : Bool) : Prop := ∃ b1 b2 : Bool, (∀ m, CbD m (rIsi K) [P, vv (.ty "int")] (db K b1)) ∧ (∀ m, CbD m (rIsi K) [P, vv (.ty "bool")] (db K b2)) ∧ b = (b1 && !b2)
theorem tyx_dq {G H : Hp} {v : V} {d : PyData} (h : Dq K G v d) (s : Same G H) : TyX K H v (.type (tyD d)) := by
  cases h with
  | non => exact .base .non
  | bl b => exact .base (.bl b)
  | int i => exact .base (.int i)
  | str x => exact .base (.str x)
  | lst h _ =>
    rcases h with (h | ⟨o, h⟩) | ⟨o, its, n, h1, h2, _⟩
    · exact .base (.lst (s _ _ h))
    · exact .base (.frz (s _ _ h))
    · exact .kList h1 h2
  | tup h _ =>
    rcases h with (h | ⟨o, h⟩) | ⟨o, its, n, h1, h2, _⟩
    · exact .base (.tup (s _ _ h))
    · exact .fTuple (s _ _ h)
    · exact .kTuple h1 h2
  | dct h _ _ => exact .base (.dK (s _ _ h))
theorem cb_isiQ {T : String} {d : PyData} (hp : ∀ v G, P.φ v G → Dq K G v d) (h : (kitB (tyD d) T).isSome = true) : CbD m (rIsi K) [P, vv (.ty T)] (db K (isiD T d)) := fun vs G H c a Q q => by
  obtain ⟨v, w, rfl, p, r⟩ := all2_two a
  cases (show w = V.ty T from r)
  obtain ⟨b, hb⟩ := Option.isSome_iff_exists.mp h
  refine ⟨v, .ty T, .type (tyD d), .type T, b, rfl, .ty T, tyx_dq (hp v G p) c.gh, kit_ty hb, q _ G H (Go.refl c) ?_⟩
  show Dp K G (.bl b) (.bool (isiD T d))
  unfold isiD
  rw [hb]
  exact .bl _
theorem kind_dq {d : PyData} (hp : ∀ v G, P.φ v G → Dq K G v d) : KindI K P (Nd.isInt d) := by
  refine ⟨isiD "int" d, isiD "bool" d, fun m => cb_isiQ hp (by rw [kit_int]; rfl), fun m => cb_isiQ hp (by rw [kit_bool]; rfl), ?_⟩
  unfold isiD
  rw [kit_int, kit_bool]
  cases d <;> rfl
theorem kind_i {i : Int} : KindI K (di K i) true := kind_dq (d := .int i) fun _ _ p => Dp.q p
theorem cb_isiObj {T : String} {ps : List (Str × Pd)} (cl : Cls K C) (ic : He.InsC K C) (hT : T ∈ ["int", "bool", "str", "tuple", "list", "dict"]) : CbD m (rIsi K) [obj C ps, vv (.ty T)] (db K false) := fun vs G H c a Q q => by
  obtain ⟨v, w, rfl, ⟨b, dx, fs, rfl, e, _⟩, r⟩ := all2_two a
  cases (show w = V.ty T from r)
  exact ⟨.ref b, .ty T, .ref C, .type T, false, rfl, .ty T, .base (.ins (c.gh _ _ e) cl ic.ha ic.hn ic.htk ic.hm), ic.ty T hT, q _ G H (Go.refl c) (.bl _)⟩
theorem kind_obj {ps : List (Str × Pd)} (cl : Cls K C) (ic : He.InsC K C) : KindI K (obj C ps) false :=
  ⟨false, false, fun m => cb_isiObj cl ic (by decide), fun m => cb_isiObj cl ic (by decide), rfl⟩
def FIsI (K : PySem.W.Frag) : Md → List Pd → Oc → Prop := fun _ Ps O => ∃ P b, KindI K P b ∧ Ps = [P] ∧ O = .ret (db K b)
def SttI (H : Hp) (st : Addr) : Prop := ∃ (big s k : Int), H st = some (.lst [.int big, .int s, .int k]) ∧ 0 ≤ big ∧ 0 ≤ s ∧ s < 2147483563 ∧ 0 ≤ k
structure Tk (m : Md) (st : Addr) : Prop where
  chg : m.chg st
  inv : ∀ H, m.inv H → SttI H st
  back : ∀ H H', m.inv H → (∀ a o, a ≠ st → H a = some o → H' a = some o) → SttI H' st → m.inv H'
def Md.stt (m : Md) (st : Addr) (n : ¬ m.dep st) : Md where
  chg := fun a => m.chg a ∨ a = st
  dep := fun a => m.dep a ∨ a = st
  inv := fun H => m.inv H ∧ SttI H st
  sub := fun a h => h.imp (m.sub a) id
  mono := fun H H' h k => ⟨m.mono H H' h.1 fun a o d => k a o (.inl d), let ⟨b, s, j, e, r⟩ := h.2; ⟨b, s, j, k st _ (.inr rfl) e, r⟩⟩
  has := fun H a h d => d.elim (fun z => m.has H a h.1 z) fun z => by subst z; obtain ⟨b, s, j, e, r⟩ := h.2; exact ⟨_, e⟩
theorem tk_stt {st : Addr} (n : ¬ m.dep st) : Tk (m.stt st n) st :=
  ⟨.inr rfl, fun H h => h.2, fun H H' h k s => ⟨m.mono H H' h.1 fun a o d e => k a o (fun z => n (by rw [← z]; exact d)) e, s⟩⟩
theorem Tk.hold {st D : Addr} {o : HO} (d : Tk m st) (h : ¬ m.dep D) : Tk (m.hold D o) st :=
  ⟨.inl d.chg, fun H x => d.inv H x.1, fun H H' x k s => ⟨d.back H H' x.1 k s, k D o (fun z => h (by rw [z]; exact m.sub _ d.chg)) x.2⟩⟩
/-- back from a new list of draws -/
theorem Go.unstt {st : Addr} {n : ¬ m.dep st} {G H G' H' : Hp} (t : Go (m.stt st n) G H G' H') (hG : G st = none) {H0 : Hp} (h0 : H0 st = none) (s0 : Same H0 H) (c0 : Cn m G H0) : Go m G H0 G' H' where
  gg := t.gg
  gh := t.gh
  fr := fun a o h e => by
    have z := t.fr a o h e
    cases q : H0 a with
    | none => rfl
    | some u => rw [s0 a u q] at z; cases z
  r := fun a o e h => t.r a o (fun z => z.elim e fun z => by rw [z, h0] at h; cases h) (s0 a o h)
  iv := t.iv.1
def spState (K : PySem.W.Frag) : Sp := fun vs H Q _ => ∃ c : Int, vs = [.int c] ∧ ∀ (st : Addr) (H' : Hp), H st = none → Same H H' → SttI H' st → Q (.ref st) H'
/-- x = state(e); rest -/
theorem bl_state {tA : TA} {i : Nat} {C : Int → Prop} (h : EvA m tA δ [exI K C]) (k : ∀ st n, Bl (m.stt st n) E t2 (δ.set i (some (vv (.ref st)))) O) : Bl m E (tSeq (tAsg (tCall (spState K) [] E tA) (gName i)) t2) δ O := fun σ G H D s c kx =>
  h σ G H s c _ fun vs G1 H1 g p1 => by
    obtain ⟨v, rfl, i0, _, p⟩ := all2_one p1
    cases p
    refine ⟨i0, rfl, fun st H' hst sm iv => ?_⟩
    have c1 := g.cn c
    have nd : ¬ m.dep st := Md.fresh c1.iv hst
    have gst : G1 st = none := by
      cases q : G1 st with
      | none => rfl
      | some o => rw [c1.gh st o q] at hst; cases hst
    have c2 : Cn (m.stt st nd) G1 H' := ⟨c1.gh.trans sm, ⟨Md.same c1.iv sm, iv⟩, fun a h => h.elim (c1.nm a) fun z => by rw [z]; exact gst⟩
    have kk := kx.go g
    refine k st nd _ G1 H' D ((s.mono g.gg).set rfl) c2 ⟨fun δ' σ' G' H2 hn g2 s2 => kk.nx δ' σ' G' H2 hn (g2.unstt gst hst sm c1) s2, fun S w G' H2 hr g2 p2 => kk.rt S w G' H2 hr (g2.unstt gst hst sm c1) p2, fun δ' σ' G' H2 hn g2 s2 => kk.bk δ' σ' G' H2 hn (g2.unstt gst hst sm c1) s2,
      fun δ' σ' G' H2 hn g2 s2 => kk.ct δ' σ' G' H2 hn (g2.unstt gst hst sm c1) s2, fun C P d v G' H2 x g2 f => kk.ex C P d v G' H2 x (g2.unstt gst hst sm c1) ⟨f.g, fun z => f.nd (.inl z), f.at_, f.p⟩⟩
def FTake (K : PySem.W.Frag) : Md → List Pd → Oc → Prop := fun m Ps O => ∃ st many, Tk m st ∧ Ps = [vv (.ref st), di K many] ∧ 0 < many ∧ many < 1000000000 ∧ O = .ret (exI K fun d => 0 ≤ d ∧ d < many)
end
section
variable {K : PySem.W.Frag}
theorem fng_ok {P : Program} {w : World} {mg : Str → Option Value} {base : Heap} {CX : CXT} {x qual : Str} {params : Arguments} {body : List Stmt} {scope : Scope} {dvs : List V} {kws : List (Str × V)} {f : Addr} {fd : FuncData} {N ps : List Str} {k : Nat} {sp : Sp}
    (Fn : FunD K x qual params body scope dvs kws f fd) (Sc : FnScope N ps scope) (len : ∀ vs H Q E, sp vs H Q E → vs.length = ps.length)
    (hbody : ∀ (cdv : Value) (A : Around) (outer : List Env) (s : Shared) (H : Hp) (vs : List V) (Q : VK) (E : XK), Room k (A.deeper (envOfC qual scope s.heap.objs.size f cdv)) → A.guards = some [] → sp vs H Q E →
      ∃ t, PSs (cxOf CX P w K mg base N qual scope f cdv A outer s H E) body t ∧ t { nx := fun _ H' => Q .non H', rt := Q } (start N vs) H) : FnG P w K mg base CX (k + 1) f fd ps sp := by
  obtain ⟨oc, od, dV, kV, doc, pm, an, cdv, ct, osl, rfl, lk, hcd, _, _⟩ := Fn.ex
  exact fng_of lk hcd Sc len fun A outer s H vs Q E hr hg hsp => hbody cdv A outer s H vs Q E hr hg hsp
end
end Nd

namespace L2
open PySem PySem.Spec PyProof.Rows
def pick {α : Type} (idx : List Nat) (l : List α) : List α := idx.filterMap fun j => l[j]?
theorem vals_get : ∀ {vs : List V} {us : List Value}, Vals vs us → ∀ j : Nat, (vs[j]? = none ∧ us[j]? = none) ∨ ∃ v u, vs[j]? = some v ∧ us[j]? = some u ∧ RelV v u
  | _, _, .nil, j => .inl ⟨by simp, by simp⟩
  | _, _, .cons r t, 0 => .inr ⟨_, _, rfl, rfl, r⟩
  | _, _, .cons r t, j + 1 => by simpa using vals_get t j
theorem vals_pick {vs : List V} {us : List Value} (h : Vals vs us) : ∀ idx : List Nat, Vals (pick idx vs) (pick idx us)
  | [] => .nil
  | j :: r => by
    unfold pick
    rcases vals_get h j with ⟨e1, e2⟩ | ⟨v, u, e1, e2, rv⟩
    · rw [List.filterMap_cons_none e1, List.filterMap_cons_none e2]; exact vals_pick h r
    · rw [List.filterMap_cons_some e1, List.filterMap_cons_some e2]; exact .cons rv (vals_pick h r)
section
variable {K : PySem.W.Frag} {x qual : Str} {params : Arguments} {body : List Stmt} {scope : Scope} {dvs : List V} {kws : List (Str × V)} {f : Addr} {fd : FuncData} {ps : List Str}
theorem FunD.kbp (F : FunD K x qual params body scope [] kws f fd) (n : Nat) (ks : List Str) (idx : List Nat)
    (h : ∀ (kV doc pm : Value) (an : Option Addr) (cdv ct : Value) (us ws : List Value), us.length = n → ws.length = ks.length → bindArgs (PySem.W.fnOf x qual params body scope .none kV doc pm an cdv ct) ⟨us, ks.zip ws⟩ = pure (ps.zip (pick idx (us ++ ws)))) :
    KBn K fd ps n ks (fun us ws => pick idx (us ++ ws)) (fun vs zs => pick idx (vs ++ zs)) := by
  obtain ⟨oc, od, dV, kV, doc, pm, an, cdv, ct, osl, rfl, lk, hcd, hD, hK⟩ := F.ex
  rcases hD with ⟨_, rfl⟩ | ⟨e, _⟩
  · exact ⟨fun s us ws X l1 l2 => .of_eq (h kV doc pm an cdv ct us ws l1 l2), fun r1 r2 => vals_pick (r1.append r2) idx⟩
  · exact absurd rfl e
theorem FunD.kbd (F : FunD K x qual params body scope dvs kws f fd) (n : Nat) (ks : List Str) (idx : List Nat) (hd : dvs ≠ [])
    (h : ∀ (T : Addr) (kV doc pm : Value) (an : Option Addr) (cdv ct : Value) (us its ws : List Value), us.length = n → its.length = dvs.length → ws.length = ks.length →
      ∃ k, bindArgs (PySem.W.fnOf x qual params body scope (.ref T) kV doc pm an cdv ct) ⟨us, ks.zip ws⟩ = seqItems? (.ref T) >>= k ∧ k (some its.toArray) = pure (ps.zip (pick idx (us ++ (its ++ ws))))) :
    ∃ its : List Value, KBn K fd ps n ks (fun us ws => pick idx (us ++ (its ++ ws))) (fun vs zs => pick idx (vs ++ (dvs ++ zs))) :=
  F.kbindsD n ks (fun us its ws => pick idx (us ++ (its ++ ws))) hd (fun r1 r2 r3 => vals_pick (r1.append (r2.append r3)) idx) h
end
section
variable {X : Cx} {σ : St} {E : XK} {K : PySem.W.Frag}
theorem passNo : PassesAt (L2.CX X.prog X.w) X σ (fun _ _ _ => False) := fun _ _ _ _ _ _ h => by
  obtain ⟨a, B, H', cls, d, _, _, _, _, _, _, _, z⟩ := h
  exact z.elim
theorem pass0At : PassesAt CX0 X σ E := fun _ _ _ _ _ _ h => h.elim
theorem passAtX {CX : CXT} (h : Passes CX X E) : PassesAt CX X σ E := fun pins H s e s' I c => h pins σ H s e s' I c
theorem call_reprK (h : X.K = K) (hg : X.A.guards = some []) (hu : X.A.units + 110 < cLine) (hs : ∃ o, K.lookup sysModules = some o ∧ o.cls = .type "dict") : CallR X (.builtin "repr") (rRepr K) := by
  subst h
  exact call_repr hg hu hs
theorem unOk {k : Nat} {A : Around} (r : Room k A) : A.units + 110 < cLine := by have := r.un; omega
end
end L2

namespace L2
open PySem PySem.Spec PyProof.Rows
/-- try: .. except c as x: .. -/
def tTryAs (K : PySem.W.Frag) (c : Value) (i : Nat) (ts : Addr → Value → Option Addr → TS) (Wout : WX) (tb : WX → TS) : TS := fun D σ H => tb (wAs K c i ts Wout D) D σ H
section
variable {X : Cx} {K : PySem.W.Frag} {x n : Str} {c : Value} {i : Nat} {body suite : List Stmt} {b₀ : Stmt} {np pos pos' : Pos} {tb : WX → TS} {ts : Addr → Value → Option Addr → TS} {Wout : WX}
theorem ps_tryK (h : X.K = K) (hs : X.stack = X.env :: X.outer) (hf : X.env.frame = some X.env.locals) (hN : X.N.Nodup) (hi : X.N[i]? = some n) (hln : X.env.kindOf n = some .local) (hc : Names X x c) (tk : Takes X Wout)
    (hb : ∀ (W : WX) (pn : List (Addr × Obj)) (xe : Value → Shared → Prop), Takes (X.tr pn xe) W → PassesOwn (model X.prog X.w) X.A X.env xe → PSs (X.tr pn xe) body (tb W))
    (hsu : ∀ (a : Addr) (oe : Obj) (cls : Value) (d : Option Addr) (pn : List (Addr × Obj)), Zc cls d oe → (∃ vs, oe.data = .fields vs) → PSs (X.suite a ((a, oe) :: pn)) (b₀ :: suite) (ts a cls d)) :
    PS X (.Try body [.ExceptHandler (some (.Name x np)) (some n) (b₀ :: suite) pos'] [] [] pos) (tTryAs K c i ts Wout tb) := h ▸ ps_try_as hs hf hN hi hln hc tk hb hsu
end
end L2
namespace Nd
open PySem L2 PyProof.Rows
section
variable {K : PySem.W.Frag} {m : Md} {E : XK} {δ : List (Option Pd)} {ta tb tc te : TE} {t u : TT} {P R S T : Pd} {t1 t2 : TS} {O : Ou} {C Co : Addr} {W : WX} {Es : L2.St → XK}
/-- a block within try that raises -/
def BlX (m : Md) (W : WX) (ts : TS) (δ : List (Option Pd)) (C : Addr) (P : Pd) : Prop :=
  ∀ D σ G H, Sl G σ δ → Cn m G H → (∀ d v G' H', Go m G H G' H' → Fl m d v P G' H' → W (.ref C) (some d) σ H') → ts D σ H
theorem bx_if {b : Bool} (h : EvB m t δ b) (h1 : b = true → BlX m W t1 δ C P) (h2 : b = false → BlX m W t2 δ C P) : BlX m W (tIfS t t1 t2) δ C P := fun D σ G H s c k =>
  h σ G H s c _ fun G1 H1 g => by
    cases b with
    | true => exact h1 rfl D σ G1 H1 (s.mono g.gg) (g.cn c) fun d v G' H' g' f => k d v G' H' (g.trans g') f
    | false => exact h2 rfl D σ G1 H1 (s.mono g.gg) (g.cn c) fun d v G' H' g' f => k d v G' H' (g.trans g') f
theorem bx_drop (h : EvX m te δ W C P) : BlX m W (tDrop te) δ C P := fun D σ G H s c k => h σ G H s c k _
theorem bx_set {i : Nat} (h : EvX m te δ W C P) : BlX m W (tAsg te (gName i)) δ C P := fun D σ G H s c k => h σ G H s c k _
theorem bl_tryB {i : Nat} {tb : WX → TS} {ts : Addr → Value → Option Addr → TS} {Wout : WX} {c : Value} (hb : ∀ W, BlX m W (tb W) δ C P) (hm : PySem.W.exmOne K (.ref C) c = some true) (hs : Su m E C P i ts δ O) :
    Bl m E (tTryAs K c i ts Wout tb) δ O := bl_tryX (fun W D σ G H s c k => hb W D σ G H s c k) hm hs
theorem bl_tryO {i : Nat} {tb : WX → TS} {ts : Addr → Value → Option Addr → TS} {Wout : WX} {c : Value} (hb : ∀ W, Bl m E (tb W) δ O) : Bl m E (tTryAs K c i ts Wout tb) δ O := bl_tryN hb
theorem mkS_raw {F : Md → List Pd → Oi → Prop} {Ps : List Pd} {ps : List (Str × Pd)} {ws : List V} {G1 H1 : Hp} {Q : VK} (c1 : Cn m G1 H1) (p : All2 G1 ws Ps) (hf : F m Ps (.ret ps)) (q : ∀ v G' H', Go m G1 H1 G' H' → (obj Co ps).φ v G' → Q v H')
    (x dx : Addr) (hx : H1 x = none) (hdx : H1 dx = none) (hne : dx ≠ x) : spI Co F (.ref x :: ws) (upd (upd H1 dx (.own x)) x (.ins Co dx [])) (fun v H2 => v = .non ∧ Q (.ref x) H2) E := by
  have z := mk_raw (E := E) c1 p hf q x dx hx hdx hne
  rw [List.append_nil] at z
  exact z
/-- how the values of a call stand in the parameters' order -/
def Arr (gV : List V → List V → List V) (Ps1 Ps2 Ps : List Pd) : Prop := ∀ (x : V) vs zs G, All2 G vs Ps1 → All2 G zs Ps2 → ∃ ws, gV (x :: vs) zs = x :: ws ∧ All2 G ws Ps
theorem ex_makeS {F : Md → List Pd → Oi → Prop} {tA tK : TA} {gV : List V → List V → List V} {Ps1 Ps2 Ps : List Pd} {n k : Nat} (ha : EvA m tA δ Ps1) (hk : EvA m tK δ Ps2) (hn : Ps1.length = n) (hk2 : Ps2.length = k) (hg : Arr gV Ps1 Ps2 Ps) (hf : F m Ps (.exc C P)) :
    EvX m (tMakeS Co n k (spI Co F) gV (WE W) tA tK) δ W C P := fun σ G H s c kx Q =>
  ha σ G H s c _ fun vs G1 H1 g1 p1 => hk σ G1 H1 (s.mono g1.gg) (g1.cn c) _ fun zs G2 H2 g2 p2 => by
    refine ⟨p1.length.trans hn, p2.length.trans hk2, fun x dx hx hdx hne => ?_⟩
    obtain ⟨ws, e, a⟩ := hg (.ref x) vs zs G2 (p1.mono g2.gg) p2
    rw [e]
    exact mkX_raw (g2.cn (g1.cn c)) a hf (fun d v G' H' g' f => kx d v G' H' ((g1.trans g2).trans g') f) x dx hx hdx hne
theorem ev_makeS {F : Md → List Pd → Oi → Prop} {tA tK : TA} {gV : List V → List V → List V} {Ps1 Ps2 Ps : List Pd} {ps : List (Str × Pd)} {n k : Nat} (ha : EvA m tA δ Ps1) (hk : EvA m tK δ Ps2) (hn : Ps1.length = n) (hk2 : Ps2.length = k) (hg : Arr gV Ps1 Ps2 Ps) (hf : F m Ps (.ret ps)) :
    EvD m (tMakeS Co n k (spI Co F) gV Es tA tK) δ (obj Co ps) := fun σ G H s c Q q =>
  ha σ G H s c _ fun vs G1 H1 g1 p1 => hk σ G1 H1 (s.mono g1.gg) (g1.cn c) _ fun zs G2 H2 g2 p2 => by
    refine ⟨p1.length.trans hn, p2.length.trans hk2, fun x dx hx hdx hne => ?_⟩
    obtain ⟨ws, e, a⟩ := hg (.ref x) vs zs G2 (p1.mono g2.gg) p2
    rw [e]
    exact mkS_raw (g2.cn (g1.cn c)) a hf (fun v G' H' g' f => q v G' H' ((g1.trans g2).trans g') f) x dx hx hdx hne
theorem all2_nil {G : Hp} {vs : List V} (h : All2 G vs []) : vs = [] := by cases h; rfl
/-- if t: x in __init__ -/
theorem in_if {a dx : Addr} {b : Bool} {ps fin : List (Str × Pd)} {X : Addr → Pd → Prop} (h : ∀ fs, EvB (m.hold a (.ins Co dx fs)) t δ b) (k1 : b = true → In m Co a dx E (tSeq t1 t2) δ ps fin X) (k2 : b = false → In m Co a dx E t2 δ ps fin X) : In m Co a dx E (tSeq (tIfS t t1 tNext) t2) δ ps fin X := fun σ G H D s c kn ke => by
  obtain ⟨fs, e, l, fl, ch⟩ := c.hold
  refine h fs σ G H s ch _ fun G1 H1 g => ?_
  cases b with
  | true => exact k1 rfl σ G1 H1 D (s.mono g.gg) (c.go e l fl g) (fun σ' G' H' g' => kn σ' G' H' ((Go.opn g).trans g')) (fun Ce P d v G' H' x g' => ke Ce P d v G' H' x ((Go.opn g).trans g'))
  | false => exact k2 rfl σ G1 H1 D (s.mono g.gg) (c.go e l fl g) (fun σ' G' H' g' => kn σ' G' H' ((Go.opn g).trans g')) (fun Ce P d v G' H' x g' => ke Ce P d v G' H' x ((Go.opn g).trans g'))
theorem dec_str (x y : Str) : decide (V.str x = V.str y) = decide (x = y) := by
  by_cases h : x = y
  · subst h; simp
  · rw [decide_eq_false h, decide_eq_false fun z => h (V.str.inj z)]
theorem ev_eqS {x y : Str} (ha : EvD m ta δ (dd K (.str x))) (hb : EvD m tb δ (dd K (.str y))) : EvD m (tOp rEq ta tb) δ (db K (decide (x = y))) := ev_op ha hb fun x y G H c px py Q q => by
  cases px; cases py
  exact ⟨rfl, q (.bl (decide (V.str _ = V.str _))) G H (Go.refl c) (by rw [dec_str]; exact .bl _)⟩
theorem ev_neS {x y : Str} (ha : EvD m ta δ (dd K (.str x))) (hb : EvD m tb δ (dd K (.str y))) : EvD m (tOp rNe ta tb) δ (db K (!decide (x = y))) := ev_op ha hb fun x y G H c px py Q q => by
  cases px; cases py
  exact ⟨rfl, q (.bl (!decide (V.str _ = V.str _))) G H (Go.refl c) (by rw [dec_str]; exact .bl _)⟩
theorem cb_abs {i : Int} : CbD m (fun xs H Q => ∃ i, xs = [V.int i] ∧ Q (.int (if i < 0 then -i else i)) H) [di K i] (di K (if i < 0 then -i else i)) := fun vs G H c a Q q => by
  obtain ⟨v, rfl, p⟩ := all2_one a
  cases p
  exact ⟨i, rfl, q _ G H (Go.refl c) (.int _)⟩
theorem ev_fdivN {i j : Int} (ha : EvD m ta δ (di K i)) (hb : EvD m tb δ (di K j)) (hc : CDivN i j) : EvD m (tOp (rI CDivN fun i j => .int (i.fdiv j)) ta tb) δ (di K (i.fdiv j)) := ev_op ha hb (od_I hc fun _ => .int _)
theorem od_exL {α : Type} {C : α → Prop} {Q S : α → Pd} {r : R2} (h : ∀ x, C x → OpD m r (Q x) P (S x)) : OpD m r (exP C Q) P (exP C S) := fun x y G H c ⟨z, hz, px⟩ py Q q =>
  h z hz x y G H c px py Q fun v G' H' g p => q v G' H' g ⟨z, hz, p⟩
theorem ev_subE {j : Int} {C : Int → Prop} (ha : EvD m ta δ (exI K C)) (hb : EvD m tb δ (di K j)) : EvD m (tOp (rI0 fun i j => .int (i - j)) ta tb) δ (exI K fun d => ∃ e, C e ∧ d = e - j) :=
  (ev_op (S := exP C fun e => di K (e - j)) ha hb (od_exL fun e _ => od_I0 (g := fun i j => .int (i - j)) fun _ => .int _)).to fun v G ⟨e, he, p⟩ => ⟨e - j, ⟨e, he, rfl⟩, p⟩
theorem ev_pow {i j : Int} (ha : EvD m ta δ (di K i)) (hb : EvD m tb δ (di K j)) (hc : CPow i j) : EvD m (tOp (rI CPow fun i j => .int (i ^ j.toNat)) ta tb) δ (di K (i ^ j.toNat)) := ev_op ha hb (od_I hc fun _ => .int _)
end
end Nd
namespace L2
open PySem PySem.Spec PyProof.Rows
theorem takesN {X : Cx} : Takes X (fun _ _ _ _ => False) := fun _ _ x => by
  obtain ⟨_, _, _, _, _, _, _, _, _, _, _, _, _, _, _, _, z⟩ := x
  exact z.elim
end L2

namespace L2
open PySem PySem.Spec PyProof.Rows
abbrev Suite := Addr → Value → Option Addr → TS
/-- behind a suite the slot is empty -/
def bareE (D : Ends) (i : Nat) : Ends := { nx := fun σ' H' => D.nx (σ'.set i none) H', rt := D.rt, bk := fun σ' H' => D.bk (σ'.set i none) H', ct := fun σ' H' => D.ct (σ'.set i none) H' }
/-- what the clauses wish of an error, the first that names it -/
def wEach (K : PySem.W.Frag) (i : Nat) (Wout : WX) (D : Ends) : List (Value × Suite) → WX
  | [] => Wout
  | (c, ts) :: r => fun cls d σ H => ∃ b, PySem.W.exmOne K cls c = some b ∧ (b = true → ∀ a, H a = none → ts a cls d (bareE D i) (σ.set i (some (.ref a))) H) ∧ (b = false → wEach K i Wout D r cls d σ H)
/-- the clauses' texts and their readings -/
inductive Hds (X : Cx) (n : Str) : List ExceptHandler → List (Value × Suite) → Prop
  | nil : Hds X n [] []
  | cons {x : Str} {c : Value} {ts : Suite} {b₀ : Stmt} {suite : List Stmt} {np pos' : Pos} {hds : List ExceptHandler} {l : List (Value × Suite)} (hc : Names X x c)
      (hsu : ∀ (a : Addr) (oe : Obj) (cls : Value) (d : Option Addr) (pn : List (Addr × Obj)), Zc cls d oe → (∃ vs, oe.data = .fields vs) → PSs (X.suite a ((a, oe) :: pn)) (b₀ :: suite) (ts a cls d)) (r : Hds X n hds l) :
      Hds X n (.ExceptHandler (some (.Name x np)) (some n) (b₀ :: suite) pos' :: hds) ((c, ts) :: l)
/-- the error at a stands in the heap h, none of its frames' business any more -/
structure Caught (X : Cx) (pins : List (Addr × Obj)) (σ : St) (H : Hp) (s : Shared) (B : Heap) (a : Addr) (cls : Value) (d : Option Addr) (h : Heap) : Prop where
  fl : HandSPX.FlyingZ B (X.env :: X.outer) a (Zc cls d) h
  na : H a = none
  go : ∀ h', B.StaysIn h' → h.UpToSlots h' → Inv X pins σ H { s with heap := h' }
  out : ∀ {W : WX} (h' : Heap), HandSPX.HeldZ B (X.env :: X.outer) a (Zc cls d) X.env.locals h' → h.UpToSlots h' → W cls d σ H → XE X W (.ref a) { s with heap := h' }
section
variable {X : Cx} {K : PySem.W.Frag} {n : Str} {i : Nat} {body : List Stmt} {h₀ : ExceptHandler} {hds : List ExceptHandler} {l : List (Value × Suite)} {pos : Pos} {tb : WX → TS} {Wout : WX}
  {pins : List (Addr × Obj)} {σ : St} {H : Hp} {D : Ends} {s : Shared} {B h : Heap} {a : Addr} {cls : Value} {d : Option Addr}
theorem Caught.away (c : Caught X pins σ H s B a cls d h) (hf : X.env.frame = some X.env.locals) : a ≠ X.env.locals ∧ a ∉ X.fs := by
  obtain ⟨oe, vs, he, hz, hd⟩ := c.fl.there
  have key : a ∉ frs (X.env :: X.outer) := fun hm => by
    obtain ⟨_, o', e', hnf⟩ := c.fl.2.2.1.mem hm
    rw [he] at e'
    cases e'
    exact hnf _ hd
  refine ⟨fun z => key (List.mem_filterMap.mpr ⟨X.env, List.mem_cons_self, by rw [hf, z]⟩), fun hm => ?_⟩
  obtain ⟨e, he, q⟩ := List.mem_filterMap.mp hm
  exact key (List.mem_filterMap.mpr ⟨e, List.mem_cons_of_mem _ he, q⟩)
theorem Caught.inv (c : Caught X pins σ H s B a cls d h) : Inv X pins σ H { s with heap := h } := c.go h c.fl.1 (Heap.UpToSlots.of_keeps fun _ _ e => e)
/-- no clause names it -/
theorem Caught.none_ (c : Caught X pins σ H s B a cls d h) (hf : X.env.frame = some X.env.locals) (tk : Takes X Wout) (w : Wout cls d σ H) : wpAny (model X.prog X.w) X.A (handleBy (.ref a) X.env []) (SP X pins D) X.xe { s with heap := h } := by
  refine wpAny_handleBy_nil ?_
  obtain ⟨k1, k2, k3, oe, vs, T, oT, ts', he, hz, hd, h1, hr⟩ := id c.fl
  unfold PySem.passOn
  refine wpAny_bind (wpAny_field he hd h1 ?_)
  rw [if_neg (show ¬ ((Value.ref T == Value.none) = true) from by simp)]
  have fin : wpAny (model X.prog X.w) X.A (setFlight (.ref a) X.env.frame) (fun _ s4 => wpAny (model X.prog X.w) X.A (throw (.ref a) : Sem Flow) (SP X pins D) X.xe s4) X.xe { s with heap := h } := by
    rw [hf]
    exact HandSPX.setFlight_upZ c.fl fun h4 hh4 up4 => wpAny_throw (tk _ _ (c.out h4 hh4 up4 w))
  first
    | exact wpAny_bind (wpAny_pure (wpAny_bind fin))
    | exact wpAny_bind fin
theorem Caught.each (hf : X.env.frame = some X.env.locals) (hN : X.N.Nodup) (hi : X.N[i]? = some n) (hln : X.env.kindOf n = some .local) (tk : Takes X Wout) (ok : X.Ok) (c : Caught X pins σ H s B a cls d h) :
    ∀ {hds : List ExceptHandler} {l : List (Value × Suite)}, Hds X n hds l → wEach X.K i Wout D l cls d σ H → wpAny (model X.prog X.w) X.A (handleBy (.ref a) X.env hds) (SP X pins D) X.xe { s with heap := h } := by
  obtain ⟨nL, nF⟩ := c.away hf
  obtain ⟨oe3, vs3, he3, hz3, hd3⟩ := c.fl.there
  have S3 := c.inv.suite he3 hd3 c.na nL nF
  intro hds l hk
  induction hk with
  | nil => exact fun w => c.none_ hf tk w
  | @cons x cv ts b₀ suite np pos' hds2 l2 hc hsu r ih =>
    rintro ⟨b, hb1, hyes, hno⟩
    refine wpAny_handleBy_cons (codeAny_handlers_test ?_) (by intro q; cases q)
    have LT : PySem.W.Looks (model X.prog X.w) h (typeOf (.ref a)) cls := fun A Q E s k q => wpAny_typeOf_ref (k _ _ he3) (by rw [hz3.1]; exact q)
    have LM := PySem.W.exm_one (M := model X.prog X.w) c.inv.kIn LT hb1
    have test : ∀ {Q : Value → Shared → Prop} {E : Value → Shared → Prop}, Q cv { s with heap := h } → wpAny (model X.prog X.w) (X.A.mark (some (.ref a))) (eval (.Name x np) X.env) Q E { s with heap := h } := fun {Q E} q => by
      obtain ⟨hg, hdbg, hm | ⟨hm, hv, hnn⟩⟩ := hc
      · exact ld_glob (X := X.suite a ((a, oe3) :: (X.pn ++ pins))) S3 hg hm q hdbg
      · exact ld_blt (X := X.suite a ((a, oe3) :: (X.pn ++ pins))) S3 hg hm hv q hnn hdbg
    refine test (LM.here ?_)
    cases b with
    | false => exact ih (hno rfl)
    | true =>
      refine codeAny_handlers_suite_as (HandSPX.lands_againZ c.fl fun h4 fl4 up4 => ?_)
      obtain ⟨oe4, vs4, he4, hz4, hd4⟩ := fl4.there
      have S4 := (c.go h4 fl4.1 up4).suite he4 hd4 c.na nL nF
      refine store_ok (X := X.suite a ((a, oe4) :: (X.pn ++ pins))) (v := .ref a) S4 hN hi (.inl hln) rfl (fun s5 S5 => ?_) (.inr hln)
      refine wpAny_mono ((hsu a oe4 cls d (X.pn ++ pins) hz4 ⟨_, hd4⟩).run [] s5 _ H _ S5 (hyes rfl a c.na)) (fun f s6 hsp => ?_) (fun _ _ z => False.elim z)
      have off : ∀ {σ6 : St} {H6 : Hp} {Q : Shared → Prop}, Inv (X.suite a ((a, oe4) :: (X.pn ++ pins))) [] σ6 H6 s6 → (∀ s7, Inv X pins (σ6.set i none) H6 s7 → Q s7) →
          wpAny (model X.prog X.w) X.A (do bindName X.env n .none; unbindBehindTheSuite X.env n pos') (fun _ s7 => Q s7) X.xe s6 := fun S6 hq => gone_ok (S6.unsuite ok) hN hi hln hq
      cases f with
      | ret u => obtain ⟨v6, σ6, H6, S6, r6, q6⟩ := hsp; exact off S6 fun s7 J7 => ⟨_, _, _, J7, r6, q6⟩
      | _ => obtain ⟨σ6, H6, S6, q6⟩ := hsp; exact off S6 fun s7 J7 => ⟨_, _, J7, q6⟩
/-- try: .. except c as x: .. except c2 as x: .. -/
def tTryEach (K : PySem.W.Frag) (i : Nat) (Wout : WX) (l : List (Value × Suite)) (tb : WX → TS) : TS := fun D σ H => tb (wEach K i Wout D l) D σ H
theorem ps_tryEach (hK : X.K = K) (hs : X.stack = X.env :: X.outer) (hf : X.env.frame = some X.env.locals) (hN : X.N.Nodup) (hi : X.N[i]? = some n) (hln : X.env.kindOf n = some .local) (tk : Takes X Wout)
    (hb : ∀ (W : WX) (pn : List (Addr × Obj)) (xe : Value → Shared → Prop), Takes (X.tr pn xe) W → PassesOwn (model X.prog X.w) X.A X.env xe → PSs (X.tr pn xe) body (tb W))
    (hh : Hds X n (h₀ :: hds) l) : PS X (.Try body (h₀ :: hds) [] [] pos) (tTryEach K i Wout l tb) := by
  subst hK
  refine ⟨fun pins s σ H D I h => ?_⟩
  have ok := I.ok
  refine wpAny_Try_except ?_
  refine wpAny_mono ((hb (wEach X.K i Wout D l) (X.pn ++ pins) (fun e s₁ => wpAny (model X.prog X.w) X.A (noteFrame e X.env) (fun _ s₂ => wpAny (model X.prog X.w) X.A (setFlight e none) (fun _ s₃ =>
    wpAny (model X.prog X.w) X.A (handleBy e X.env (h₀ :: hds)) (SP X pins D) X.xe s₃) X.xe s₂) X.xe s₁) (fun u s' xx => ?_) PassesOwn.looking).run [] s σ H D (I.toTry _) h) (fun f s1 hsp => ?_) (fun e s1 he => he)
  · obtain ⟨a, B, sI, pins', σ', H', cls, d, rfl, J', nb, up, sky, na, os, ag, w⟩ := xx
    have J : Inv X pins σ' H' sI := J'.ofTry ok
    show wpAny (model X.prog X.w) X.A (noteFrame (.ref a) X.env) _ _ _
    refine Sky.land Zc.steady (by rw [ok.frames, hs]) hf (by rw [← hs]; exact sky) fun h3 fl3 up3 => ?_
    have c : Caught X pins σ' H' s' B a cls d h3 := ⟨fl3, na, fun h' st u' => J.landed nb st ((up.trans up3).trans u') os ag,
      fun h' hh u' wq => ⟨a, B, sI, pins, σ', H', cls, d, rfl, J, nb, (up.trans up3).trans u', .inr (.inr (by rw [hs]; exact hh)), na, os, ag, wq⟩⟩
    exact c.each hf hN hi hln tk ok hh w
  · cases f with
    | next => obtain ⟨σ', H', J', q⟩ := hsp; exact wpAny_execs_nil ⟨σ', H', J'.ofTry ok, q⟩
    | ret u => obtain ⟨v, σ', H', J', r, q⟩ := hsp; exact ⟨v, σ', H', J'.ofTry ok, r, q⟩
    | _ => obtain ⟨σ', H', J', q⟩ := hsp; exact ⟨σ', H', J'.ofTry ok, q⟩
end
end L2
namespace Nd
open PySem L2 PyProof.Rows
/-- the clause that takes an error of the class at C -/
inductive Hit (K : PySem.W.Frag) (C : Addr) : List (Value × Suite) → Suite → Prop
  | here {c : Value} {ts : Suite} {r : List (Value × Suite)} : PySem.W.exmOne K (.ref C) c = some true → Hit K C ((c, ts) :: r) ts
  | next {c : Value} {ts ts' : Suite} {r : List (Value × Suite)} : PySem.W.exmOne K (.ref C) c = some false → Hit K C r ts → Hit K C ((c, ts') :: r) ts
section
variable {K : PySem.W.Frag} {m : Md} {E : XK} {δ : List (Option Pd)} {P : Pd} {O : Ou} {C : Addr} {i : Nat} {Wout : WX}
theorem hit_w {D : Ends} {σ : L2.St} {H : Hp} {d : Option Addr} {l : List (Value × Suite)} {ts : Suite} (h : Hit K C l ts) (k : ∀ a, H a = none → ts a (.ref C) d (bareE D i) (σ.set i (some (.ref a))) H) : wEach K i Wout D l (.ref C) d σ H := by
  induction h with
  | here e => exact ⟨true, e, fun _ => k, (fun z => by cases z)⟩
  | next e _ ih => exact ⟨false, e, (fun z => by cases z), fun _ => ih k⟩
theorem bl_tryE {tb : WX → TS} {l : List (Value × Suite)} {ts : Suite} (hb : ∀ W, BlX m W (tb W) δ C P) (hit : Hit K C l ts) (hs : Su m E C P i ts δ O) : Bl m E (tTryEach K i Wout l tb) δ O := fun σ G H D s cn kx => by
  refine hb _ D σ G H s cn fun d v G' H' g f => hit_w hit fun a ha => ?_
  have c1 := f.cn (g.cn cn)
  have sl : Sl G' (σ.set i (some (.ref a))) (δ.set i (some (excD a v P))) := (s.mono g.gg).set ⟨rfl, f.p⟩
  have kk := kx.go g
  exact hs a d v _ G' H' _ sl c1 ⟨fun δ' σ' G2 H2 hn g2 s2 => kk.nx _ _ G2 H2 hn (Go.unhold g2 f.at_) (s2.clear i), fun S w G2 H2 hr g2 p2 => kk.rt S w G2 H2 hr (Go.unhold g2 f.at_) p2, fun δ' σ' G2 H2 hn g2 s2 => kk.bk _ _ G2 H2 hn (Go.unhold g2 f.at_) (s2.clear i),
    fun δ' σ' G2 H2 hn g2 s2 => kk.ct _ _ G2 H2 hn (Go.unhold g2 f.at_) (s2.clear i), fun _ _ _ _ _ _ z => z.elim⟩
theorem bl_tryEO {tb : WX → TS} {l : List (Value × Suite)} (hb : ∀ W, Bl m E (tb W) δ O) : Bl m E (tTryEach K i Wout l tb) δ O := fun σ G H D s cn kx => hb _ σ G H D s cn kx
end
end Nd

namespace Nd
open PySem L2 PyProof.Rows
/-- the objects of one's own, as they are -/
abbrev Io := List (Addr × HO)
def adr (ι : Io) : List Addr := ι.map (·.1)
/-- m, and the objects of ι are as they are -/
def holds (m : Md) (ι : Io) : Md where
  chg := fun a => m.chg a ∨ a ∈ adr ι
  dep := fun a => m.dep a ∨ a ∈ adr ι
  inv := fun H => m.inv H ∧ ∀ q ∈ ι, H q.1 = some q.2
  sub := fun a h => h.imp (m.sub a) id
  mono := fun H H' h k => ⟨m.mono H H' h.1 fun a o d => k a o (.inl d), fun q hq => k q.1 q.2 (.inr (List.mem_map.mpr ⟨q, hq, rfl⟩)) (h.2 q hq)⟩
  has := fun H a h d => d.elim (fun z => m.has H a h.1 z) fun z => by
    obtain ⟨q, hq, rfl⟩ := List.mem_map.mp z
    exact ⟨_, h.2 q hq⟩
structure Apart (m : Md) (ι : Io) : Prop where
  nd : ∀ p ∈ adr ι, ¬ m.dep p
  un : (adr ι).Nodup
/-- from (G, H) to (G', H'): what is new is new, or of ps; m's things and those of ps may have changed -/
structure GoO (m : Md) (ps : List Addr) (G H G' H' : Hp) : Prop where
  gg : Same G G'
  gh : Same G' H'
  fr : ∀ a o, G' a = some o → G a = none → H a = none ∨ a ∈ ps
  r : ∀ a o, ¬ m.chg a → a ∉ ps → H a = some o → H' a = some o
  iv : m.inv H'
  dm : ∀ a, H' a = none → H a = none
section
variable {m : Md} {ps ps1 ps2 : List Addr} {G H G1 H1 G2 H2 : Hp} {ι : Io}
theorem GoO.more (t : GoO m ps G H G1 H1) (nw : ∀ p ∈ ps1, p ∈ ps ∨ H p = none) (u : GoO m ps1 G1 H1 G2 H2) : GoO m ps G H G2 H2 where
  gg := t.gg.trans u.gg
  gh := u.gh
  fr := fun a o h n => by
    cases q : G1 a with
    | some o' => exact t.fr a o' q n
    | none => exact (u.fr a o h q).elim (fun z => .inl (t.dm a z)) fun z => (nw a z).symm
  r := fun a o e z h => u.r a o e (fun w => (nw a w).elim z fun v => by rw [v] at h; cases h) (t.r a o e z h)
  iv := u.iv
  dm := fun a h => t.dm a (u.dm a h)
theorem Go.o (t : Go (holds m ι) G H G1 H1) : GoO m (adr ι) G H G1 H1 where
  gg := t.gg
  gh := t.gh
  fr := fun a o h n => .inl (t.fr a o h n)
  r := fun a o e z h => t.r a o (fun w => w.elim e z) h
  iv := t.iv.1
  dm := fun a h => t.dom h
theorem GoO.o0 (t : GoO m [] G H G1 H1) : Go m G H G1 H1 where
  gg := t.gg
  gh := t.gh
  fr := fun a o h n => (t.fr a o h n).elim id fun z => nomatch z
  r := fun a o e h => t.r a o e (fun z => nomatch z) h
  iv := t.iv
theorem holds_nil : holds m [] = m := by
  obtain ⟨c, d, i, s, mo, ha⟩ := m
  have h1 : (fun a => c a ∨ a ∈ adr ([] : Io)) = c := by funext a; simp [adr]
  have h2 : (fun a => d a ∨ a ∈ adr ([] : Io)) = d := by funext a; simp [adr]
  have h3 : (fun H => i H ∧ ∀ q ∈ ([] : Io), H q.1 = some q.2) = i := by funext H; simp
  unfold holds
  congr
theorem Cn.o0 (c : Cn m G H) : Cn (holds m []) G H := ⟨c.gh, ⟨c.iv, fun q hq => nomatch hq⟩, fun a h => h.elim (c.nm a) fun z => nomatch z⟩
end
structure Oo where
  nx : Io → List (Option Pd) → Prop := fun _ _ => False
  rt : Pd → Prop := fun _ => False
  bk : Io → List (Option Pd) → Prop := fun _ _ => False
  ct : Io → List (Option Pd) → Prop := fun _ _ => False
  ex : Addr → Pd → Prop := fun _ _ => False
/-- a state behind a block: from (ps, H) on -/
structure StO (m : Md) (ps : List Addr) (G H : Hp) (ι : Io) (δ : List (Option Pd)) (σ : L2.St) (G' H' : Hp) : Prop where
  go : GoO m ps G H G' H'
  nw : ∀ p ∈ adr ι, p ∈ ps ∨ H p = none
  ap : Apart m ι
  cn : Cn (holds m ι) G' H'
  sl : Sl G' σ δ
structure KxO (m : Md) (ps : List Addr) (G H : Hp) (O : Oo) (E : XK) (D : Ends) : Prop where
  nx : ∀ ι δ σ G' H', O.nx ι δ → StO m ps G H ι δ σ G' H' → D.nx σ H'
  rt : ∀ S v G' H', O.rt S → GoO m ps G H G' H' → S.φ v G' → D.rt v H'
  bk : ∀ ι δ σ G' H', O.bk ι δ → StO m ps G H ι δ σ G' H' → D.bk σ H'
  ct : ∀ ι δ σ G' H', O.ct ι δ → StO m ps G H ι δ σ G' H' → D.ct σ H'
  ex : ∀ C P d v G' H', O.ex C P → GoO m ps G H G' H' → Fl m d v P G' H' → E (.ref C) (some d) H'
theorem StO.more {m : Md} {ps ps1 : List Addr} {G H G1 H1 G' H' : Hp} {ι : Io} {δ : List (Option Pd)} {σ : L2.St} (t : GoO m ps G H G1 H1) (nw : ∀ p ∈ ps1, p ∈ ps ∨ H p = none) (s : StO m ps1 G1 H1 ι δ σ G' H') : StO m ps G H ι δ σ G' H' :=
  ⟨t.more nw s.go, fun p hp => (s.nw p hp).elim (nw p) fun z => .inr (t.dm p z), s.ap, s.cn, s.sl⟩
theorem KxO.go {m : Md} {ps ps1 : List Addr} {G H G1 H1 : Hp} {O : Oo} {E : XK} {D : Ends} (k : KxO m ps G H O E D) (t : GoO m ps G H G1 H1) (nw : ∀ p ∈ ps1, p ∈ ps ∨ H p = none) : KxO m ps1 G1 H1 O E D :=
  ⟨fun ι δ σ G' H' h s => k.nx ι δ σ G' H' h (s.more t nw), fun S v G' H' h g p => k.rt S v G' H' h (t.more nw g) p, fun ι δ σ G' H' h s => k.bk ι δ σ G' H' h (s.more t nw), fun ι δ σ G' H' h s => k.ct ι δ σ G' H' h (s.more t nw),
    fun C P d v G' H' h g f => k.ex C P d v G' H' h (t.more nw g) f⟩
/-- a block: its own objects ι, the slots δ -/
def Bo (m : Md) (E : XK) (ts : TS) (ι : Io) (δ : List (Option Pd)) (O : Oo) : Prop :=
  ∀ (σ : L2.St) (G H : Hp) (D : Ends), Apart m ι → Cn (holds m ι) G H → Sl G σ δ → KxO m (adr ι) G H O E D → ts D σ H
section
variable {K : PySem.W.Frag} {m : Md} {E : XK} {δ : List (Option Pd)} {ι : Io} {ta tb tc te : TE} {t u : TT} {P R S T : Pd} {t1 t2 : TS} {O : Oo} {C : Addr}
theorem self_nw {H : Hp} : ∀ p ∈ adr ι, p ∈ adr ι ∨ H p = none := fun _ h => .inl h
/-- a block without own objects, as Bl has it -/
theorem bl_bo {O : Ou} (h : Bo m E t1 [] δ { nx := fun ι d => ι = [] ∧ O.nx d, rt := O.rt, bk := fun ι d => ι = [] ∧ O.bk d, ct := fun ι d => ι = [] ∧ O.ct d, ex := O.ex }) : Bl m E t1 δ O := fun σ G H D s c k =>
  h σ G H D ⟨(fun _ z => nomatch z), List.nodup_nil⟩ c.o0 s ⟨fun ι d σ' G' H' ⟨_, h⟩ st => k.nx d σ' G' H' h st.go.o0 st.sl, fun S v G' H' h g p => k.rt S v G' H' h g.o0 p, fun ι d σ' G' H' ⟨_, h⟩ st => k.bk d σ' G' H' h st.go.o0 st.sl,
    fun ι d σ' G' H' ⟨_, h⟩ st => k.ct d σ' G' H' h st.go.o0 st.sl, fun C P d v G' H' h g f => k.ex C P d v G' H' h g.o0 f⟩
theorem bo_seq (M : Io → List (Option Pd) → Prop) (h1 : Bo m E t1 ι δ { O with nx := M }) (h2 : ∀ ι' δ', M ι' δ' → Bo m E t2 ι' δ' O) : Bo m E (tSeq t1 t2) ι δ O := fun σ G H D ap c s k =>
  h1 σ G H { D with nx := t2 D } ap c s ⟨fun ι' δ' σ' G' H' hm st => h2 ι' δ' hm σ' G' H' D st.ap st.cn st.sl (k.go st.go st.nw), k.rt, k.bk, k.ct, k.ex⟩
theorem bo_set {i : Nat} (h : EvD (holds m ι) te δ P) (k : Bo m E t2 ι (δ.set i (some P)) O) : Bo m E (tSeq (tAsg te (gName i)) t2) ι δ O := fun σ G H D ap c s kx =>
  h σ G H s c _ fun v G1 H1 g p => k _ G1 H1 D ap (g.cn c) ((s.mono g.gg).set p) (kx.go g.o self_nw)
theorem bo_set1 {i : Nat} (h : EvD (holds m ι) te δ P) (k : O.nx ι (δ.set i (some P))) : Bo m E (tAsg te (gName i)) ι δ O := fun σ G H D ap c s kx =>
  h σ G H s c _ fun v G1 H1 g p => kx.nx _ _ _ G1 H1 k ⟨g.o, self_nw, ap, g.cn c, (s.mono g.gg).set p⟩
theorem bo_setE {α : Type} {C : α → Prop} {Q : α → Pd} {i : Nat} (h : EvD (holds m ι) te δ (exP C Q)) (k : ∀ x, C x → Bo m E t2 ι (δ.set i (some (Q x))) O) : Bo m E (tSeq (tAsg te (gName i)) t2) ι δ O := fun σ G H D ap c s kx =>
  h σ G H s c _ fun v G1 H1 g ⟨x, hx, p⟩ => k x hx _ G1 H1 D ap (g.cn c) ((s.mono g.gg).set p) (kx.go g.o self_nw)
theorem bo_ret (h : EvD (holds m ι) te δ P) (k : O.rt P) : Bo m E (tRet te) ι δ O := fun σ G H D ap c s kx => h σ G H s c _ fun v G1 H1 g p => kx.rt P v G1 H1 k g.o p
theorem bo_retS (h : EvD (holds m ι) te δ P) (k : O.rt P) : Bo m E (tSeq (tRet te) t2) ι δ O := fun σ G H D ap c s kx => h σ G H s c _ fun v G1 H1 g p => kx.rt P v G1 H1 k g.o p
theorem bo_next (k : O.nx ι δ) : Bo m E tNext ι δ O := fun σ G H D ap c s kx => kx.nx ι δ σ G H k ⟨(Go.refl c).o, self_nw, ap, c, s⟩
theorem bo_nextS (k : Bo m E t2 ι δ O) : Bo m E (tSeq tNext t2) ι δ O := fun σ G H D ap c s kx => k σ G H D ap c s kx
theorem bo_drop (h : EvD (holds m ι) te δ P) (k : O.nx ι δ) : Bo m E (tDrop te) ι δ O := fun σ G H D ap c s kx => h σ G H s c _ fun v G1 H1 g p => kx.nx ι δ σ G1 H1 k ⟨g.o, self_nw, ap, g.cn c, s.mono g.gg⟩
theorem bo_dropS (h : EvD (holds m ι) te δ P) (k : Bo m E t2 ι δ O) : Bo m E (tSeq (tDrop te) t2) ι δ O := fun σ G H D ap c s kx => h σ G H s c _ fun v G1 H1 g p => k σ G1 H1 D ap (g.cn c) (s.mono g.gg) (kx.go g.o self_nw)
theorem bo_if {b : Bool} (h : EvB (holds m ι) t δ b) (h1 : b = true → Bo m E t1 ι δ O) (h2 : b = false → Bo m E t2 ι δ O) : Bo m E (tIfS t t1 t2) ι δ O := fun σ G H D ap c s kx =>
  h σ G H s c _ fun G1 H1 g => by
    cases b with
    | true => exact h1 rfl _ G1 H1 D ap (g.cn c) (s.mono g.gg) (kx.go g.o self_nw)
    | false => exact h2 rfl _ G1 H1 D ap (g.cn c) (s.mono g.gg) (kx.go g.o self_nw)
theorem bo_ifR {b : Bool} {t3 : TS} (h : EvB (holds m ι) t δ b) (h1 : b = true → Bo m E (tSeq t1 t3) ι δ O) (h2 : b = false → Bo m E (tSeq t2 t3) ι δ O) : Bo m E (tSeq (tIfS t t1 t2) t3) ι δ O := fun σ G H D ap c s kx =>
  h σ G H s c _ fun G1 H1 g => by
    cases b with
    | true => exact h1 rfl _ G1 H1 D ap (g.cn c) (s.mono g.gg) (kx.go g.o self_nw)
    | false => exact h2 rfl _ G1 H1 D ap (g.cn c) (s.mono g.gg) (kx.go g.o self_nw)
theorem bo_assoc {t3 : TS} (k : Bo m E (tSeq t1 (tSeq t2 t3)) ι δ O) : Bo m E (tSeq (tSeq t1 t2) t3) ι δ O := k
theorem bo_for {wi : TI} {j n : Nat} {Y : Nat → Pd} {tb t3 : TS} (Iv : Nat → Io → List (Option Pd) → Prop) (hw : WkD (holds m ι) wi δ n Y) (h0 : Iv 0 ι δ)
    (hs : ∀ i ι' d, i < n → Iv i ι' d → Bo m E tb ι' (d.set j (some (Y i))) { nx := Iv (i + 1), ct := Iv (i + 1), rt := O.rt, bk := fun ι' d' => Bo m E t3 ι' d' O, ex := O.ex })
    (hd : ∀ ι' d, Iv n ι' d → Bo m E t3 ι' d O) : Bo m E (tSeq (tFor wi (gName j) tb) t3) ι δ O := fun σ G H D ap c s kx =>
  hw σ G H s c _ fun J G1 H1 g ⟨Gd, Yl, W, hG, hY⟩ => by
    have c1 := g.cn c
    refine for_it W (fun i σ' H' => ∃ ι' d G', StO m (adr ι) G1 H1 ι' d σ' G' H' ∧ Iv i ι' d) ⟨ι, δ, G1, ⟨(Go.refl c1).o, self_nw, ap, c1, s.mono g.gg⟩, h0⟩ (fun i σ' H' _ ⟨_, d, G', st, _⟩ => hG H' (st.go.gg.trans st.go.gh)) ?_ ?_
    · rintro i x σ' H' H'' hi ⟨ι', d, G', st, iv⟩ y
      obtain ⟨G'', g'', px⟩ := hY (holds m ι') i H' x H'' G' hi st.go.gg st.cn y
      have gg := st.go.more st.nw g''.o
      have kk : KxO m (adr ι') G'' H'' O E D := (kx.go g.o self_nw).go gg st.nw
      refine hs i ι' d hi iv _ G'' H'' _ st.ap (g''.cn st.cn) ((st.sl.mono g''.gg).set px) ⟨?_, kk.rt, ?_, ?_, kk.ex⟩
      · exact fun ι2 d' σ2 G2 H2 a s2 => ⟨ι2, d', G2, s2.more gg st.nw, a⟩
      · exact fun ι2 d' σ2 G2 H2 a s2 => a σ2 G2 H2 D s2.ap s2.cn s2.sl (kk.go s2.go s2.nw)
      · exact fun ι2 d' σ2 G2 H2 a s2 => ⟨ι2, d', G2, s2.more gg st.nw, a⟩
    · rintro σ' H' ⟨ι', d, G', st, iv⟩
      exact hd ι' d iv σ' G' H' D st.ap st.cn st.sl ((kx.go g.o self_nw).go st.go st.nw)
theorem bo_while {tb t3 : TS} (Iv : Nat → Io → List (Option Pd) → Prop) (k0 : Nat) (h0 : Iv k0 ι δ)
    (hs : ∀ k ι' d, Iv k ι' d → ∃ b, EvB (holds m ι') t d b ∧ (b = true → Bo m E tb ι' d { nx := fun ι2 d' => ∃ k', k' < k ∧ Iv k' ι2 d', ct := fun ι2 d' => ∃ k', k' < k ∧ Iv k' ι2 d', rt := O.rt, bk := fun ι2 d' => Bo m E t3 ι2 d' O, ex := O.ex }) ∧ (b = false → Bo m E t3 ι' d O)) :
    Bo m E (tSeq (tWhile t tb) t3) ι δ O := fun σ G H D ap c s kx => by
  refine ⟨fun k σ' H' => ∃ ι' d G', StO m (adr ι) G H ι' d σ' G' H' ∧ Iv k ι' d, ⟨k0, ι, δ, G, ⟨(Go.refl c).o, self_nw, ap, c, s⟩, h0⟩, ?_⟩
  rintro k σ' H' ⟨ι', d, G', st, iv⟩
  obtain ⟨b, hb, h1, h2⟩ := hs k ι' d iv
  refine hb σ' G' H' st.sl st.cn _ fun G2 H2 g2 => ?_
  have gg := st.go.more st.nw g2.o
  have kk : KxO m (adr ι') G2 H2 O E D := kx.go gg st.nw
  cases b with
  | true =>
    rw [if_pos rfl]
    refine ⟨fun σ3 H3 => ∃ k', k' < k ∧ ∃ ι3 d3 G3, StO m (adr ι) G H ι3 d3 σ3 G3 H3 ∧ Iv k' ι3 d3, fun σ3 H3 ⟨k', e, z⟩ => ⟨k', e, z⟩, ?_⟩
    refine h1 rfl σ' G2 H2 _ st.ap (g2.cn st.cn) (st.sl.mono g2.gg) ⟨?_, kk.rt, ?_, ?_, kk.ex⟩
    · rintro ι3 d3 σ3 G3 H3 ⟨k', e, iv3⟩ s3
      exact ⟨k', e, ι3, d3, G3, s3.more gg st.nw, iv3⟩
    · exact fun ι3 d3 σ3 G3 H3 a s3 => a σ3 G3 H3 D s3.ap s3.cn s3.sl (kk.go s3.go s3.nw)
    · rintro ι3 d3 σ3 G3 H3 ⟨k', e, iv3⟩ s3
      exact ⟨k', e, ι3, d3, G3, s3.more gg st.nw, iv3⟩
  | false =>
    rw [if_neg Bool.false_ne_true]
    exact h2 rfl σ' G2 H2 D st.ap (g2.cn st.cn) (st.sl.mono g2.gg) kk
theorem bo_raise {tA : TA} (h : EvA (holds m ι) tA δ [P]) (k : O.ex C P) : Bo m E (tRaiseOwe C (WO E) tA) ι δ O := fun σ G H D ap c s kx =>
  h σ G H s c _ fun vs G1 H1 g1 p1 => by
    obtain ⟨v, rfl, p⟩ := all2_one p1
    refine ⟨v, rfl, fun d hd => ?_⟩
    obtain ⟨g2, f⟩ := fl_new (g1.cn c) hd p
    exact kx.ex C P d v G1 _ k (g1.trans g2).o ⟨f.g, fun z => f.nd (.inl z), f.at_, f.p⟩
theorem bo_raiseS {tA : TA} (h : EvA (holds m ι) tA δ [P]) (k : O.ex C P) : Bo m E (tSeq (tRaiseOwe C (WO E) tA) t2) ι δ O := fun σ G H D ap c s kx => bo_raise h k σ G H D ap c s kx
theorem bo_dropX (h : EvX (holds m ι) te δ (WO E) C P) (k : O.ex C P) : Bo m E (tSeq (tDrop te) t2) ι δ O := fun σ G H D ap c s kx => h σ G H s c (fun d v G' H' g f => kx.ex C P d v G' H' k g.o ⟨f.g, fun z => f.nd (.inl z), f.at_, f.p⟩) _
end
/-- what is told of an object of one's own -/
structure Own where
  ρ : HO → Hp → Prop
  mono : ∀ o G G', ρ o G → Same G G' → ρ o G'
/-- the slot of such an object -/
def ownV (p : Addr) (o : HO) (R : Own) : Pd := ⟨fun x G => x = .ref p ∧ R.ρ o G, fun _ _ _ h s => ⟨h.1, R.mono _ _ _ h.2 s⟩⟩
/-- a list of described items -/
def ownL (Ps : List Pd) : Own := ⟨fun o G => ∃ vs, o = .lst vs ∧ All2 G vs Ps, fun _ _ _ ⟨vs, e, a⟩ s => ⟨vs, e, a.mono s⟩⟩
theorem set_same {α : Type} : ∀ {l : List α} {i : Nat} {x : α}, l[i]? = some x → l.set i x = l
  | [], _, _, h => by simp at h
  | a :: r, 0, x, h => by simp at h; subst h; rfl
  | a :: r, i + 1, x, h => by rw [List.set_cons_succ, set_same (by simpa using h)]
def rep (ι : Io) (p : Addr) (o : HO) : Io := ι.map fun q => if q.1 = p then (p, o) else q
theorem adr_rep {ι : Io} {p : Addr} {o : HO} : adr (rep ι p o) = adr ι := by
  unfold adr rep
  rw [List.map_map]
  refine List.map_congr_left fun q _ => ?_
  show (if q.1 = p then (p, o) else q).1 = q.1
  split
  · rename_i e; exact e.symm
  · rfl
theorem rep_one {p : Addr} {o o' : HO} : rep [(p, o)] p o' = [(p, o')] := by simp [rep]
theorem rep_hd {p : Addr} {o o' : HO} {r : Io} (h : p ∉ adr r) : rep ((p, o) :: r) p o' = (p, o') :: r := by
  unfold rep
  rw [List.map_cons, if_pos rfl]
  congr 1
  conv => rhs; rw [← List.map_id r]
  refine List.map_congr_left fun q hq => ?_
  rw [if_neg fun e => h (by rw [← e]; exact List.mem_map.mpr ⟨q, hq, rfl⟩)]
  rfl
section
variable {K : PySem.W.Frag} {m : Md} {E : XK} {δ : List (Option Pd)} {ι : Io} {ta tb tc te : TE} {t u : TT} {P R S T : Pd} {t1 t2 : TS} {O : Oo} {C : Addr}
theorem Cn.at_ {G H : Hp} {p : Addr} {o : HO} (c : Cn (holds m ι) G H) (h : (p, o) ∈ ι) : H p = some o := c.iv.2 _ h
/-- an own object is written -/
theorem own_write {G H : Hp} {p : Addr} {o o' : HO} (ap : Apart m ι) (c : Cn (holds m ι) G H) (h : (p, o) ∈ ι) : Apart m (rep ι p o') ∧ Cn (holds m (rep ι p o')) G (upd H p o') ∧ GoO m (adr ι) G H G (upd H p o') := by
  have hp : p ∈ adr ι := List.mem_map.mpr ⟨_, h, rfl⟩
  have gp : G p = none := c.nm p (.inr hp)
  have same : Same G (upd H p o') := fun a u e => by rw [upd_ne (fun z => by rw [z, gp] at e; cases e)]; exact c.gh a u e
  have iv : m.inv (upd H p o') := Md.upd c.iv.1 (ap.nd p hp)
  refine ⟨⟨fun q hq => ap.nd q (by rw [adr_rep] at hq; exact hq), by rw [adr_rep]; exact ap.un⟩, ⟨same, ⟨iv, fun q hq => ?_⟩, fun a z => c.nm a (by rw [show (holds m ι).chg a = (m.chg a ∨ a ∈ adr ι) from rfl]; rw [show (holds m (rep ι p o')).chg a = (m.chg a ∨ a ∈ adr (rep ι p o')) from rfl, adr_rep] at z; exact z)⟩,
    ⟨Same.refl G, same, fun a u e n => (by rw [e] at n; cases n), fun a u _ z e => by rw [upd_ne (fun w => z (by rw [w]; exact hp))]; exact e, iv, fun a e => ?_⟩⟩
  · obtain ⟨q0, hq0, rfl⟩ := List.mem_map.mp hq
    by_cases e : q0.1 = p
    · rw [if_pos e]; exact upd_same
    · rw [if_neg e, upd_ne e]; exact c.iv.2 q0 hq0
  · by_cases w : a = p
    · subst w; rw [upd_same] at e; cases e
    · rw [upd_ne w] at e; exact e
/-- a new own object -/
theorem own_new {G H : Hp} {p : Addr} {o : HO} (ap : Apart m ι) (c : Cn (holds m ι) G H) (hp : H p = none) : Apart m ((p, o) :: ι) ∧ Cn (holds m ((p, o) :: ι)) G (upd H p o) ∧ GoO m (adr ι) G H G (upd H p o) := by
  have nd := Md.fresh c.iv hp
  have gp : G p = none := by
    cases q : G p with
    | none => rfl
    | some u => rw [c.gh p u q] at hp; cases hp
  have s : Same H (upd H p o) := fun a u e => by rw [upd_ne (ne_of_none e hp)]; exact e
  refine ⟨⟨fun q hq => ?_, List.nodup_cons.mpr ⟨fun z => nd (.inr z), ap.un⟩⟩, ⟨c.gh.trans s, ⟨Md.same c.iv.1 s, fun q hq => ?_⟩, fun a z => ?_⟩, ⟨Same.refl G, c.gh.trans s, fun a u e n => (by rw [e] at n; cases n), fun a u _ _ e => s a u e, Md.same c.iv.1 s, fun a e => ?_⟩⟩
  · rcases List.mem_cons.mp hq with rfl | hq
    · exact fun z => nd (.inl z)
    · exact ap.nd q hq
  · rcases List.mem_cons.mp hq with rfl | hq
    · exact upd_same
    · exact s _ _ (c.iv.2 q hq)
  · rcases z with z | z
    · exact c.nm a (.inl z)
    · rcases List.mem_cons.mp z with rfl | z
      · exact gp
      · exact c.nm a (.inr z)
  · by_cases w : a = p
    · subst w; exact hp
    · rw [upd_ne w] at e; exact e
/-- x = [] -/
theorem bo_newL {i : Nat} (k : ∀ p, p ∉ adr ι → Bo m E t2 ((p, .lst []) :: ι) (δ.set i (some (ownV p (.lst []) (ownL [])))) O) : Bo m E (tSeq (tAsg (tLst tNil) (gName i)) t2) ι δ O := fun σ G H D ap c s kx => by
  refine ⟨by decide, fun p hp => ?_⟩
  obtain ⟨a1, c1, g1⟩ := own_new (o := .lst []) ap c hp
  refine k p (fun z => (Md.fresh c.iv hp) (.inr z)) _ G _ D a1 c1 (s.set ⟨rfl, [], rfl, .nil⟩) (kx.go g1 fun q hq => ?_)
  rcases List.mem_cons.mp hq with rfl | hq
  · exact .inr hp
  · exact .inl hq
/-- x.append(e) -/
theorem bo_app {i : Nat} {p : Addr} {vs : List V} {Ps : List Pd} (hm : (p, HO.lst vs) ∈ ι) (hs : δ[i]? = some (some (ownV p (.lst vs) (ownL Ps)))) (hl : Ps.length ≤ 100000) (h : EvD (holds m ι) te δ P)
    (k : ∀ v, Bo m E t2 (rep ι p (.lst (vs ++ [v]))) (δ.set i (some (ownV p (.lst (vs ++ [v])) (ownL (Ps ++ [P]))))) O) : Bo m E (tSeq (tDrop (tBM K "list" rAppend (tVar i) (tCons te tNil))) t2) ι δ O := fun σ G H D ap c s kx => by
  obtain ⟨x, hx, rfl, vs', e', al⟩ := s.2 i _ hs
  cases e'
  refine ⟨_, hx, .inl ⟨rfl, vs, .inl (.inl (c.at_ hm))⟩, ?_⟩
  refine h σ G H s c _ fun v G1 H1 g pv => ?_
  have c1 := g.cn c
  refine ⟨p, vs, v, rfl, rfl, c1.at_ hm, ?_, ?_⟩
  · rw [al.length]; exact Nat.lt_of_le_of_lt hl (by decide)
  · obtain ⟨a2, c2, g2⟩ := own_write (o' := .lst (vs ++ [v])) ap c1 hm
    refine k v _ G1 _ D a2 c2 ?_ (kx.go (g.o.more self_nw g2) (by rw [adr_rep]; exact self_nw))
    have s1 := (s.mono g.gg).set (i := i) (v := .ref p) (P := ownV p (.lst (vs ++ [v])) (ownL (Ps ++ [P]))) ⟨rfl, vs ++ [v], rfl, (al.mono g.gg).append (.cons pv .nil)⟩
    rw [show σ.set i (some (V.ref p)) = σ from set_same hx] at s1
    exact s1
theorem bo_app1 {i : Nat} {p : Addr} {vs : List V} {Ps : List Pd} (hm : (p, HO.lst vs) ∈ ι) (hs : δ[i]? = some (some (ownV p (.lst vs) (ownL Ps)))) (hl : Ps.length ≤ 100000) (h : EvD (holds m ι) te δ P)
    (k : ∀ v, O.nx (rep ι p (.lst (vs ++ [v]))) (δ.set i (some (ownV p (.lst (vs ++ [v])) (ownL (Ps ++ [P])))))) : Bo m E (tDrop (tBM K "list" rAppend (tVar i) (tCons te tNil))) ι δ O := fun σ G H D ap c s kx =>
  bo_app (K := K) (t2 := tNext) hm hs hl h (fun v => bo_next (k v)) σ G H D ap c s kx
/-- an own list is written no more: it is known from now on -/
theorem bo_known {i : Nat} {p : Addr} {vs : List V} {Ps : List Pd} {ι' : Io} (he : ι = (p, HO.lst vs) :: ι') (hs : δ[i]? = some (some (ownV p (.lst vs) (ownL Ps)))) (k : Bo m E t1 ι' (δ.set i (some (ls Ps))) O) : Bo m E t1 ι δ O := fun σ G H D ap c s kx => by
  subst he
  obtain ⟨x, hx, rfl, vs', e', al⟩ := s.2 i _ hs
  cases e'
  have hp : H p = some (.lst vs) := c.iv.2 _ List.mem_cons_self
  have gp : G p = none := c.nm p (.inr List.mem_cons_self)
  obtain ⟨n1, n2⟩ := List.nodup_cons.mp ap.un
  have sG : Same G (upd G p (.lst vs)) := fun a u e => by rw [upd_ne (ne_of_none e gp)]; exact e
  have sH : Same (upd G p (.lst vs)) H := fun a u e => by
    by_cases w : a = p
    · subst w; rw [upd_same] at e; cases e; exact hp
    · rw [upd_ne w] at e; exact c.gh a u e
  have ap' : Apart m ι' := ⟨fun q hq => ap.nd q (List.mem_cons_of_mem _ hq), n2⟩
  have c' : Cn (holds m ι') (upd G p (.lst vs)) H := ⟨sH, ⟨c.iv.1, fun q hq => c.iv.2 q (List.mem_cons_of_mem _ hq)⟩, fun a z => by
    have na : a ≠ p := fun w => by
      subst w
      exact z.elim (fun y => ap.nd a List.mem_cons_self (m.sub a y)) n1
    rw [upd_ne na]
    exact c.nm a (z.imp id (List.mem_cons_of_mem _))⟩
  have g : GoO m (adr ((p, HO.lst vs) :: ι')) G H (upd G p (.lst vs)) H := ⟨sG, sH, (fun a u e n => by
    by_cases w : a = p
    · subst w; exact .inr List.mem_cons_self
    · rw [upd_ne w] at e; rw [e] at n; cases n), fun a u _ _ e => e, c.iv.1, fun a e => e⟩
  have s1 := (s.mono sG).set (i := i) (v := .ref p) (P := ls Ps) ⟨p, vs, rfl, upd_same, al.mono sG⟩
  rw [show σ.set i (some (V.ref p)) = σ from set_same hx] at s1
  exact k σ _ H D ap' c' s1 (kx.go g fun q hq => .inl (List.mem_cons_of_mem _ hq))
theorem ev_ownLen {i : Nat} {p : Addr} {vs : List V} {Ps : List Pd} (hm : (p, HO.lst vs) ∈ ι) (hs : δ[i]? = some (some (ownV p (.lst vs) (ownL Ps)))) : EvD (holds m ι) (tCB (fun xs H Q => ∃ p ys, xs = [V.ref p] ∧ (SqL K H p ys ∨ SqT K H p ys) ∧ Q (.int ys.length) H) (tCons (tVar i) tNil)) δ (di K Ps.length) := fun σ G H s c Q q => by
  obtain ⟨x, hx, rfl, vs', e', al⟩ := s.2 i _ hs
  cases e'
  exact ⟨_, hx, p, vs, rfl, .inl (.inl (.inl (c.at_ hm))), q _ G H (Go.refl c) (by rw [al.length]; exact .int _)⟩
theorem ev_ownIx {i k : Nat} {p : Addr} {vs : List V} {Ps : List Pd} (hm : (p, HO.lst vs) ∈ ι) (hs : δ[i]? = some (some (ownV p (.lst vs) (ownL Ps)))) (hb : EvD (holds m ι) tb δ (di K (k : Int))) (hk : Ps[k]? = some P) : EvD (holds m ι) (tOp (rIxL K) (tVar i) tb) δ P := fun σ G H s c Q q => by
  obtain ⟨x, hx, rfl, vs', e', al⟩ := s.2 i _ hs
  cases e'
  refine ⟨_, hx, ?_⟩
  refine hb σ G H s c _ fun y G1 H1 g py => ?_
  cases py
  obtain ⟨v, e, pv⟩ := (al.mono g.gg).get hk
  refine ⟨p, vs, (k : Int), v, rfl, rfl, .inl (.inl ((g.cn c).at_ hm)), ?_, q _ G1 H1 g pv⟩
  have hlt : k < vs.length := (List.getElem?_eq_some_iff.mp e).1
  unfold L2.atI ixN
  rw [if_pos (by omega), if_pos (by omega)]
  exact e
end
end Nd

namespace PySem
namespace OweX
open PySem.W PySem.Calls PyProof.Rows PySem.HandSPX
section
variable {M : Model} {A : Around} {E : Value → Shared → Prop} {h : Heap} {g : Array GenState} {d : Drawn} {t : Nat} {os : OsState} {prog : Program} {w : World} {R : Result → Shared → Prop}
variable {nm q : Str} {C N : Addr} {bs bm bmB : List Value} {hdct : Bool} {sn : List Str} {sub : List Value} {ab : Bool} {col : Option Bool} {dd : Option Addr} {k0 k1 k2 k3 k5 : Option Value} {B newId initId : String}
theorem check_newK (F : ExcBaseFacts B newId initId bmB) (hT : ∀ X : String, bm.contains (.type X) = bmB.contains (.type X)) {rest : List Value} {kw : List (Str × Value)} {Q : Unit → Shared → Prop}
    (hC : h.get? C = some (excClassObj nm q C N bs bm hdct sn sub ab col dd k0 k1 k2 k3 k5 newId)) (hq : Q () ⟨h, g, d, t, os⟩) : wpAny M A (checkBuiltinCall newId ⟨.ref C :: rest, kw⟩) Q E ⟨h, g, d, t, os⟩ := by
  have hcont : (Value.ref C :: bm).contains (.type B) = true := by rw [List.contains_cons, hT, F.hasB, Bool.or_true]
  have hstar := F.noStar
  simp only [checkBuiltinCall, F.newKind, F.newSplit, F.newRow]
  repeat (first | refine wpAny_loadPart_at hC ?_ | (refine wpAny_isSubtype_exc hC ?_; rw [hcont]) | refine wpAny_staticBase_exc hC ?_ | refine wpAny_madeBy_exc hC ?_ | simp only [bne_self_eq_false, Bool.false_eq_true, if_false] | wp_step)
  exact hq
theorem new_ownK (F : ExcBaseFacts B newId initId bmB) (hT : ∀ X : String, bm.contains (.type X) = bmB.contains (.type X)) {rest : List Value} {kw : List (Str × Value)}
    (hC : h.get? C = some (excClassObj nm q C N bs bm hdct sn sub ab col dd k0 k1 k2 k3 k5 newId))
    (hq : R (.ok (.ret (.ref (h.objs.size + 1)))) ⟨(h.push { cls := .type "tuple", data := .seq rest.toArray }).push
      { cls := .ref C, data := .fields #[.ref h.objs.size, .none, .none, .none, .bool false, .none] }, g, d, t, os⟩) (hrest : rest.length ≤ sizeLine) :
    codeAny (model prog w) A (.builtin newId ⟨.ref C :: rest, kw⟩) R ⟨h, g, d, t, os⟩ := by
  have hends := F.ends
  have hcB : (Value.ref C :: bm).contains (.type B) = true := by rw [List.contains_cons, hT, F.hasB, Bool.or_true]
  have hcA : (Value.ref C :: bm).contains (.type "AttributeError") = false := by rw [List.contains_cons, hT, F.noAttr]; rfl
  have hcN : (Value.ref C :: bm).contains (.type "NameError") = false := by rw [List.contains_cons, hT, F.noName]; rfl
  refine codeAny_builtinAt F.entry ?_
  unfold Builtin.«BaseException.__new__»
  refine wpAt_bind ?_
  show wpAt _ _ _ (stack >>= _) _ _ _
  refine wpAt_bind (wpAt_stack fun p below => wpAt_of_wpAny ?_)
  wp_walk
  refine wpAt_of_wpAny ?_
  rw [F.owner]
  repeat (first | with_reducible refine wpAny_madeHere_exc F.canon hC ?_ | with_reducible refine wpAny_loadPart_at hC ?_ | (with_reducible refine wpAny_isSubtype_exc hC ?_; first | rw [hcB] | rw [hcA] | rw [hcN]) | wp_step)
  show R _ _
  rw [Heap.size_push]
  exact hq
theorem type_call_ownK (F : ExcBaseFacts B newId initId bmB) (hT : ∀ X : String, bm.contains (.type X) = bmB.contains (.type X)) {rest : List Value} {kw : List (Str × Value)} {fI : Addr} {Q : Fin → Shared → Prop}
    (hC : h.get? C = some (excClassObj nm q C N bs bm hdct sn sub ab col dd k0 k1 k2 k3 k5 newId))
    (hi : W.Looks (model prog w) h (typeLookup (.ref C) "__init__") (some (.ref fI))) (hb : ∀ self, W.Looks (model prog w) h (bindSpecial (.ref fI) self) (.ref fI, [self])) (hrest : rest.length ≤ sizeLine)
    (hq : codeAny (model prog w) A (.call (.ref fI) ⟨.ref (h.objs.size + 1) :: rest, kw⟩)
      (fun r s' => match r with | .ok (.ret v) => v = .none ∧ Q (.done (.ret (.ref (h.objs.size + 1)))) s' | .ok _ => False | .error e => E e s')
      ⟨(h.push (W.kdv_tup rest)).push (excO C h.objs.size), g, d, t, os⟩) :
    wpAny (model prog w) A (Builtin.«type.__call__» ⟨.ref C :: rest, kw⟩) Q E ⟨h, g, d, t, os⟩ := by
  repeat (first | with_reducible refine wpAny_loadPart_at hC ?_ | with_reducible refine wpAny_madeBy_exc hC ?_ | wp_step)
  refine codeAny_call_builtin_code (Code.quiet_builtin _ F.quiet) (check_newK F hT hC ?_)
  refine new_ownK F hT hC ?_ hrest
  show wpAny _ _ _ _ _ _
  have k : ∀ b o, h.get? b = some o → ((h.push (W.kdv_tup rest)).push (excO C h.objs.size)).get? b = some o := fun b o e => Heap.get?_push_of_some _ (Heap.get?_push_of_some _ e)
  have hC₁ := k _ _ hC
  have hget : ((h.push (W.kdv_tup rest)).push (excO C h.objs.size)).get? (h.objs.size + 1) = some (excO C h.objs.size) := by heap_get
  have hcC : (Value.ref C :: bm).contains (.ref C) = true := by simp
  have i1 := hi.keeps k
  have b1 := (hb (.ref (h.objs.size + 1))).keeps k
  unfold isInstance
  repeat (first | with_reducible refine wpAny_loadPart_at hget ?_ | (with_reducible refine wpAny_isSubtype_exc hC₁ ?_; rw [hcC]) | wp_step)
  show wpAny _ _ (typeLookup (.ref C) _) _ _ _
  refine i1.at ?_
  refine wpAny_holding (wpAny_bind (b1.at ?_))
  refine wpAny_bind (wpAny_call (codeAny_mono hq fun r s' z => ?_))
  rcases r with e | (v | _ | _ | _) <;> first | exact z | exact z.elim | skip
  obtain ⟨rfl, z⟩ := z
  first
    | exact wpAny_pure (wpAny_pure z)
    | (wp_walk; exact z)
theorem call_ownK (F : ExcBaseFacts B newId initId bmB) (hT : ∀ X : String, bm.contains (.type X) = bmB.contains (.type X)) {rest : List Value} {kw : List (Str × Value)} {fI : Addr}
    (hC : h.get? C = some (excClassObj nm q C N bs bm hdct sn sub ab col dd k0 k1 k2 k3 k5 newId))
    (hi : W.Looks (model prog w) h (typeLookup (.ref C) "__init__") (some (.ref fI))) (hb : ∀ self, W.Looks (model prog w) h (bindSpecial (.ref fI) self) (.ref fI, [self])) (hrest : rest.length ≤ sizeLine)
    (hq : codeAny (model prog w) (A.under (.builtin "type.__call__" ⟨.ref C :: rest, kw⟩)) (.call (.ref fI) ⟨.ref (h.objs.size + 1) :: rest, kw⟩) (W.InitBack (h.objs.size + 1) R)
      ⟨(h.push (W.kdv_tup rest)).push (excO C h.objs.size), g, d, t, os⟩) :
    codeAny (model prog w) A (.call (.ref C) ⟨rest, kw⟩) R ⟨h, g, d, t, os⟩ := by
  have f1 := tc_lookup
  have f2 := tc_bind (.ref C)
  have hTy : (⟨h, g, d, t, os⟩ : Shared).TypeIs (.ref C) "type" := ⟨_, hC, rfl⟩
  refine codeAny_of_tree ?_
  show wpAny _ _ (callAny (.ref C) _) _ _ _
  repeat (any_goals (first | assumption | with_reducible refine wpAny_loadPart_at hC ?_ | wp_step))
  refine ⟨rfl, ?_⟩
  refine codeAny_call_builtin_at (Code.quiet_builtin _ (by decide +kernel)) entry_typeCall (wpAny_check_type_call_sub hC (type_call_ownK F hT hC hi hb hrest ?_))
  refine codeAny_mono hq fun r s' z => ?_
  rcases r with e | (v | _ | _ | _) <;> exact z
end
end OweX
end PySem
namespace PySem
namespace OweX
open PySem.W PySem.Calls PyProof.Rows PySem.HandSPX
section
variable {prog : Program} {w : World} {A : Around} {E : Value → Shared → Prop} {R : Result → Shared → Prop} {s : Shared} {K : Frag} {mg : Str → Option Value} {D C fI : Addr} {base : Heap}
/-- how an error is asked for: C(v), C(what=v), C() -/
inductive Ask (v : Value) : Args → Prop
  | pos : Ask v ⟨[v], []⟩
  | kw : Ask v ⟨[], [("what", v)]⟩
  | non : v = .none → Ask v ⟨[], []⟩
theorem Ask.size {v : Value} {a : Args} (h : Ask v a) : a.pos.length ≤ sizeLine := by
  rw [sizeLine_eq]
  cases h <;> simp
theorem owe_madeK (T : Txt prog K D fI) (U : Cls K D fI C) (M : L2.Mod K mg base) (hsup : mg "super" = none) {v : Value} {a : Args} (ask : Ask v a) (kb : ∀ b o, base.get? b = some o → s.heap.get? b = some o) (hroom : A.depth + 1 < recursionLimit)
    (hq : ∀ h' tk e d, OwnMade s.heap h' e C d v → R (.ok (.ret (.ref e))) { s with heap := h', toks := tk }) :
    codeAny (model prog w) A (.call (.ref C) a) R s := by
  obtain ⟨nm, q, N, bs, bm, sn, sub, ab, col, dd, k0, k1, k2, k3, k5, hC, hbm⟩ := U.cls
  obtain ⟨hp, g, dr, tk, os⟩ := s
  obtain ⟨rest, kw⟩ := a
  have X : K.In hp := M.kin.keeps kb
  have k : ∀ b o, hp.get? b = some o → ((hp.push (kdv_tup rest)).push (excO C hp.objs.size)).get? b = some o := fun b o e => Heap.get?_push_of_some _ (Heap.get?_push_of_some _ e)
  have hget : ((hp.push (kdv_tup rest)).push (excO C hp.objs.size)).get? (hp.objs.size + 1) = some (excO C hp.objs.size) := by heap_get
  have hnx : base.get? (hp.objs.size + 1) = none := by
    cases e : base.get? (hp.objs.size + 1) with
    | none => rfl
    | some o =>
      have z : hp.get? (hp.objs.size + 1) = some o := kb _ _ e
      exact absurd (Nat.lt_of_succ_lt (Heap.lt_size z)) (Nat.lt_irrefl _)
  refine call_ownK F.excBase_ValueError (fun X => refsVE_contains X bm hbm) (X _ _ hC) (looks_findIn X U.iC) (fun self => bind_fn X self T.tI) ask.size ?_
  refine owe_init (s := ⟨(hp.push (kdv_tup rest)).push (excO C hp.objs.size), g, dr, tk, os⟩) (v := v) T U M hsup (fun b o e => k b o (kb b o e)) hget hnx ?_ ?_ fun h' tk' dx ⟨k', hx, dn, dne, hns⟩ => ?_
  · show A.depth + 1 < recursionLimit
    exact hroom
  · rintro fd ⟨dT, kV, doc, pm, an, ct, cda, cc, p1, p2, p3, a0, a1, a2, a3, a4, a5, q1, q2, q3, q4, o, n, rfl, lT, dTt⟩
    obtain ⟨kk, e1, e2⟩ : ∃ kk, bindArgs (ksFn "__init__" "OweError.__init__" (iA p1 p2 p3) (iB a0 a1 a2 a3 a4 a5 q1 q2 q3 q4) iS (.ref dT) kV doc pm an (.ref cda) ct cc) ⟨.ref (hp.objs.size + 1) :: rest, kw⟩ = seqItems? (.ref dT) >>= kk ∧ kk (some #[.none]) = pure [(("self" : Str), .ref (hp.objs.size + 1)), ("what", v)] := by
      cases ask with
      | pos => exact ⟨_, rfl, rfl⟩
      | kw => exact ⟨_, rfl, rfl⟩
      | non e => subst e; exact ⟨_, rfl, rfl⟩
    refine L2.BindsTo.of_looks fun M => ?_
    rw [e1]
    exact L2.looks_items (X.keeps k) lT dTt (.of_pure e2)
  · have old : ∀ b o, hp.get? b = some o → h'.get? b = some o := fun b o e => k' b o (Nat.ne_of_lt (Nat.lt_succ_of_lt (Heap.lt_size e))) (k b o e)
    have z : hp.objs.size + 1 + 1 ≤ dx := by
      first
        | (simpa only [Heap.size_push] using dn)
        | exact dn
        | (have q := dn; rw [Heap.size_push, Heap.size_push] at q; exact q)
    exact ⟨rfl, hq h' tk' (hp.objs.size + 1) dx ⟨old, Nat.le_succ _, hx, Nat.le_trans (Nat.le_trans (Nat.le_succ _) (Nat.le_succ _)) z, dne, hns⟩⟩
end
end OweX
end PySem

namespace L2
open PySem PySem.Spec PyProof.Rows
/-- at e: an error of the class at C, its dict at d -/
def errO (e C d : Addr) : HO := .ext fun h => ∃ t1 : Addr, h.get? e = some ({ cls := .ref C, dict := some d, data := .fields #[.ref t1, .none, .none, .none, .bool false, .none] } : Obj)
section
variable {X : Cx} {D C fI : Addr} {x : Str} {K : PySem.W.Frag}
theorem errO_ok {P : Program} {w : World} {H : Hp} {h : Heap} {e C d t1 : Addr} (he : h.get? e = some ({ cls := .ref C, dict := some d, data := .fields #[.ref t1, .none, .none, .none, .bool false, .none] } : Obj)) : ObjOk P w H h e (errO e C d) :=
  ⟨⟨t1, he⟩, ⟨_, he⟩, fun _ _ ⟨t2, q⟩ k => ⟨t2, k _ q⟩⟩
theorem errO_at {P : Program} {w : World} {H : Hp} {h : Heap} {e C d : Addr} (hok : HOk P w H h) (he : H e = some (errO e C d)) : ∃ t1 : Addr, h.get? e = some ({ cls := .ref C, dict := some d, data := .fields #[.ref t1, .none, .none, .none, .bool false, .none] } : Obj) := (hok e _ he).1
/-- C(..) as a value -/
def kErr (C : Addr) (v : V) (H1 : Hp) (Q : VK) : Prop := ∀ e d, H1 e = none → H1 d = none → e ≠ d → Q (.ref e) (upd (upd H1 d (.xd [(("what" : Str), v)])) e (errO e C d))
theorem err_run {pins : List (Addr × Obj)} {σ : St} {H1 : Hp} {s1 : Shared} {Q : VK} {v : V} {v' : Value} {a : Args} {k : Nat} (T : PySem.OweX.Txt X.prog X.K D fI) (U : PySem.OweX.Cls X.K D fI C) (hsup : X.mg "super" = none) (hr : Room k X.A) (I1 : Inv X pins σ H1 s1) (rv : RelV v v') (ask : PySem.OweX.Ask v' a) (q : kErr C v H1 Q) :
    wpAny (model X.prog X.w) X.A (call (.ref C) a.pos a.kw) (EP X pins σ Q) X.xe s1 := by
  have bk := I1.bk
  obtain ⟨hp, g, dr, tk, os⟩ := s1
  refine wpAny_call (PySem.OweX.owe_madeK T U I1.ok.mod hsup ask bk (by have := hr.dp; omega) fun h' tk' e d M => ?_)
  obtain ⟨t1, hoe⟩ := M.obj
  have hns := M.ns
  obtain ⟨G', g1, g2⟩ := restrict h' fun b => decide (b ≠ e)
  have gk : ∀ b, b ≠ e → G'.get? b = h'.get? b := fun b hb => g1 b (decide_eq_true hb)
  have ge : G'.get? e = none := g2 e (by simp)
  have old : ∀ b o, hp.get? b = some o → G'.get? b = some o := fun b o q => (gk b (Nat.ne_of_lt (Nat.lt_of_lt_of_le (Heap.lt_size q) M.new))).trans (M.keep b o q)
  have ob : ObjOk X.prog X.w (upd H1 d (.xd [(("what" : Str), v)])) G' d (.xd [(("what" : Str), v)]) := ⟨_, hns.at (fun o q => (gk d M.dne).trans q), fun f => relO_what rv f⟩
  have J : Inv X pins σ (upd H1 d (.xd [(("what" : Str), v)])) ⟨G', g, dr, tk', os⟩ := I1.laid (t' := tk') old M.dbig ob
  have he1 : H1 e = none := I1.hok.fresh M.new
  have hd1 : H1 d = none := I1.hok.fresh M.dbig
  have hn : (upd H1 d (.xd [(("what" : Str), v)])) e = none := by rw [upd_ne (Ne.symm M.dne)]; exact he1
  have up : ∀ b u, G'.get? b = some u → h'.get? b = some u := fun b u q => by
    by_cases hb : b = e
    · rw [hb, ge] at q; cases q
    · exact (gk b hb).symm.trans q
  exact ⟨.ref e, _, J.laidN (h' := h') (a := e) (o := errO e C d) (t' := tk') up ge hn (errO_ok hoe), rfl, q e d he1 hd1 (Ne.symm M.dne)⟩
def tErr (C : Addr) (ta : TA) : TE := fun σ H Q => ta σ H fun vs H1 => ∃ v, vs = [v] ∧ kErr C v H1 Q
def tErr0 (C : Addr) : TE := fun _ H Q => kErr C .non H Q
theorem pe_err {a : Expr} {ta : TA} {p pos : Pos} {k : Nat} (T : PySem.OweX.Txt X.prog X.K D fI) (U : PySem.OweX.Cls X.K D fI C) (hm : X.mg x = some (.ref C)) (hsup : X.mg "super" = none) (hr : Room k X.A) (hg : Gl X x) (ha : PA X [a] ta)
    (hdb : (x == ("__debug__" : Str)) = false := by decide) (he : starEach (a :: []) X.env = (false, eval a X.env) :: starEach [] X.env := by rfl) (hpl : (backTo pos (starEach [] X.env)).any (·.1) = false := by rfl) :
    PE X (.Call (.Name x p) [a] [] pos) (tErr C ta) := by
  refine ⟨fun pins s σ H Q I h => ?_⟩
  refine wpAny_Call_Name_kw (ld_glob I hg hm ?_ hdb)
  refine PySem.W.callWith_K (h₀ := X.base) I.ok.mod.kin U.kC (thn (ha.run pos pins s σ H _ I h) fun us s1 hh => ?_) he hpl
  obtain ⟨vs, H1, I1, r1, v, ev, q1⟩ := hh
  subst ev
  refine ⟨I1.kIn, ?_⟩
  cases r1 with
  | cons rv rn =>
    cases rn
    exact err_run T U hsup hr I1 rv .pos q1
theorem pe_err0 {p pos : Pos} {k : Nat} (T : PySem.OweX.Txt X.prog X.K D fI) (U : PySem.OweX.Cls X.K D fI C) (hm : X.mg x = some (.ref C)) (hsup : X.mg "super" = none) (hr : Room k X.A) (hg : Gl X x) (hdb : (x == ("__debug__" : Str)) = false := by decide) :
    PE X (.Call (.Name x p) [] [] pos) (tErr0 C) := by
  refine ⟨fun pins s σ H Q I h => ?_⟩
  refine wpAny_Call_Name_kw (ld_glob I hg hm ?_ hdb)
  exact PySem.W.callWith_K0 I.kIn U.kC (err_run (v := .non) (v' := .none) T U hsup hr I rfl (.non rfl) h)
theorem pe_errK {kws : List Keyword} {tk : TA} {p pos : Pos} {k : Nat} (T : PySem.OweX.Txt X.prog X.K D fI) (U : PySem.OweX.Cls X.K D fI C) (hm : X.mg x = some (.ref C)) (hsup : X.mg "super" = none) (hr : Room k X.A) (hg : Gl X x) (hkw : PK X kws tk)
    (hall : (backToKw pos (keywordEach kws X.env)).all (·.1.isSome) = true := by rfl) (hks : (backToKw pos (keywordEach kws X.env)).filterMap (·.1) = [PySem.Str.ofString "what"] := by rfl) (hdb : (x == ("__debug__" : Str)) = false := by decide)
    (hpl : ((backTo pos (starEach [] X.env)).any (·.1) || (backToKw pos (keywordEach kws X.env)).any (·.1.isNone)) = false := by rfl) :
    PE X (.Call (.Name x p) [] kws pos) (tErr C tk) := by
  refine ⟨fun pins s σ H Q I h => ?_⟩
  refine wpAny_Call_Name_kw (ld_glob I hg hm ?_ hdb)
  refine PySem.W.callWith_KW0 (h₀ := X.base) I.ok.mod.kin U.kC hall ?_ hpl
  refine thn (hkw.run pos pins s σ H _ I h) fun ws s2 ⟨zs, H2, I2, rz, v, ev, q2⟩ => ⟨I2.kIn, ?_⟩
  subst ev
  rw [hks]
  cases rz with
  | cons rv rn =>
    cases rn
    exact err_run T U hsup hr I2 rv .kw q2
/-- e.what -/
def tErrW (K : PySem.W.Frag) (D fI : Addr) (te : TE) : TE := fun σ H Q => te σ H fun x H1 => ∃ (e C d : Addr) (v : V), x = .ref e ∧ PySem.OweX.Cls K D fI C ∧ H1 e = some (errO e C d) ∧ H1 d = some (.xd [(("what" : Str), v)]) ∧ Q v H1
theorem pe_errW {e : Expr} {te : TE} {pos : Pos} (hK : X.K = K) (he : PE X e te) (hb : attributeBase e "what" X.env (eval e X.env) = eval e X.env := by rfl) : PE X (.Attribute e "what" pos) (tErrW K D fI te) := by
  subst hK
  refine ⟨fun pins s σ H Q I h => ?_⟩
  refine attr_of hb (thn (he.run pins s σ H _ I h) fun u s1 hh => ?_)
  obtain ⟨x, H1, I1, rx, e, C, d, v, ex, U, ee, ed, q⟩ := hh
  subst ex
  obtain rfl : u = Value.ref e := rx
  obtain ⟨t1, ho⟩ := errO_at I1.hok ee
  have hx : ObjOk X.prog X.w H1 s1.heap d (.xd [(("what" : Str), v)]) := I1.hok d _ ed
  obtain ⟨mA, hns, hr⟩ := hx
  obtain ⟨od, hod, hl⟩ := lookIn_ns hns
  have l : List.lookup ("what" : Str) [(("what" : Str), v)] = some v := by simp [List.lookup]
  obtain ⟨u, hu, ru⟩ := RelO.some_of (v := v) (o := mA "what") (by rw [← l]; exact hr "what")
  have J : PySem.W.InstAt s1.heap e _ C (some od) := ⟨ho, rfl, rfl, hod⟩
  exact HandSPX.exc_get I1.kIn J U.ga U.gg U.exC (PySem.W.findObj_own U.hdC U.noN rfl (by rw [hl, hu])) (handed_of ru) ⟨v, H1, I1.tok _, ru, q⟩
/-- isinstance(e, c), e an error, c a class -/
def rIsE (K : PySem.W.Frag) (D fI : Addr) : List V → Hp → VK → Prop := fun xs H Q => ∃ (e C d : Addr) (c : V) (u : Value) (b : Bool), xs = [.ref e, c] ∧ H e = some (errO e C d) ∧ (∃ v, H d = some (.xd [(("what" : Str), v)])) ∧ PySem.OweX.Cls K D fI C ∧
  PySem.W.findIn K (.ref C) "__class__" = some (some (.builtin "object.__class__")) ∧ PySem.W.specialIn K (.builtin "object.__class__") "__get__" = some (some (.builtin "getset_descriptor.__get__")) ∧ PySem.W.takesIn K (.builtin "object.__class__") = some true ∧
  PySem.W.mroIn K C (.type "object") = some true ∧ ClsV c u ∧ PySem.W.kitOne K (.ref C) u = some b ∧ Q (.bl b) H
theorem call_isE (hK : X.K = K) : CallR X (.builtin "isinstance") (rIsE K D fI) := by
  subst hK
  intro pins s σ H xs us Q I r h
  obtain ⟨e, C, d, c, u, b, rfl, ee, ⟨v, ed⟩, U, ha, hn, htk, hm, k, ek, q⟩ := h
  obtain ⟨u1, u2, rfl, r1, r2⟩ := vals2 r
  have e2 := k.eq r2
  subst e2
  obtain rfl : u1 = Value.ref e := r1
  obtain ⟨t1, ho⟩ := errO_at I.hok ee
  have hx : ObjOk X.prog X.w H s.heap d (.xd [(("what" : Str), v)]) := I.hok d _ ed
  obtain ⟨mA, hns, hr⟩ := hx
  obtain ⟨od, hod, hl⟩ := lookIn_ns hns
  have J : PySem.W.InstAt s.heap e _ C (some od) := ⟨ho, rfl, rfl, hod⟩
  obtain ⟨nm, qn, N, bs, bm, sn, sub, ab, col, dd, k0, k1, k2, k3, k5, hC, hbm⟩ := U.cls
  have hcl : (PySem.W.clsIn X.K C).isSome = true := by unfold PySem.W.clsIn; rw [hC] <;> rfl
  exact PySem.W.kia_one (PySem.W.kitx_exc hcl U.ga U.gg U.exC ha hn htk hm) I.kIn J ek (fun z => nomatch z) fun tk => ⟨.bl b, H, I.tok tk, rfl, q⟩
/-- calls among defs that know of no repr -/
theorem run_fng {CX : CXT} {k : Nat} {f : Addr} {fd : FuncData} {ps : List Str} {sp : Sp} {E : XK} {pins : List (Addr × Obj)} {σ : St} {H : Hp} {s : Shared} {Q : VK} {us : List Value} {vs : List V} (F : FnG X.prog X.w X.K X.mg X.base CX k f fd ps sp) (hr : Room k X.A) (hg : X.A.guards = some []) (hb : Binds X.K fd ps []) (hx : Passes CX X E)
    (I : Inv X pins σ H s) (r : Vals vs us) (h : sp vs H Q E) : wpAny (model X.prog X.w) X.A (call (.ref f) us) (EP X pins σ Q) X.xe s := by
  have hl : us.length = ps.length := by rw [← r.length]; exact F.len _ _ _ _ h
  have b := hb s us I.kIn (by rw [List.append_nil]; exact hl)
  rw [List.append_nil] at b
  refine wpAny_call (codeAny_mono (F.run X.A X.stack s H ⟨us, []⟩ us vs Q E hr hg I.env0 b r h) fun r s' hq => ?_)
  cases r with
  | error e => exact hx pins σ H s e s' I hq
  | ok fl =>
    cases fl with
    | ret u => exact I.after hq
    | _ => exact False.elim hq
theorem pe_callg {CX : CXT} {k : Nat} {f : Addr} {fd : FuncData} {ps : List Str} {sp : Sp} {E : XK} {p pos : Pos} {e : Expr} {es : List Expr} {t : TA} (F : FnG X.prog X.w X.K X.mg X.base CX k f fd ps sp) (hr : Room k X.A) (hgd : X.A.guards = some []) (hg : Gl X x) (hm : X.mg x = some (.ref f)) (hk : PySem.W.keepIn X.K (.ref f) = true) (hb : Binds X.K fd ps []) (hx : Passes CX X E)
    (ha : PA X (e :: es) t) (hdb : (x == ("__debug__" : Str)) = false := by decide) (he : starEach (e :: es) X.env = (false, eval e X.env) :: starEach es X.env := by rfl) (hpl : (backTo pos (starEach es X.env)).any (·.1) = false := by rfl) :
    PE X (.Call (.Name x p) (e :: es) [] pos) (tCall sp [] E t) := by
  refine ⟨fun pins s σ H Q I h => ?_⟩
  refine wpAny_Call_Name_kw (ld_glob I hg hm ?_ hdb)
  refine PySem.W.callWith_K (h₀ := X.base) I.ok.mod.kin hk (thn (ha.run pos pins s σ H _ I h) fun us s1 ⟨vs, H1, I1, r, q⟩ => ⟨I1.kIn, ?_⟩) he hpl
  have q' : sp vs H1 Q E := by
    have z : sp (vs ++ []) H1 Q E := q
    rw [List.append_nil] at z
    exact z
  exact run_fng F hr hgd hb hx I1 r q'
theorem op_eqQK (hK : X.K = K) (hu : X.A.units + 64 < cLine) : OpR X (compareOp .Eq) (fun x y H Q => rEqD K x y H Q ∨ rEqDA x y H Q) := by
  subst hK
  intro pins s σ H x y v u Q I rx ry h
  rcases h with h | h
  · exact op_eqD hu pins s σ H x y v u Q I rx ry h
  · exact op_eq_dictA (by omega) pins s σ H x y v u Q I rx ry h
/-- == of data, dicts too (their values flat) -/
def rEqQ (K : PySem.W.Frag) : R2 := fun x y H Q => rEqD K x y H Q ∨ rEqDA x y H Q
end
end L2

namespace Nd
open PySem L2 PyProof.Rows
/-- an error of the class at C whose what is told of by P -/
def errP (C : Addr) (P : Pd) : Pd := ⟨fun v G => ∃ e d u, v = .ref e ∧ G e = some (errO e C d) ∧ G d = some (.xd [(("what" : Str), u)]) ∧ P.φ u G,
  fun _ _ _ ⟨e, d, u, h, h1, h2, h3⟩ s => ⟨e, d, u, h, s _ _ h1, s _ _ h2, P.mono _ _ _ h3 s⟩⟩
section
variable {K : PySem.W.Frag} {m : Md} {E : XK} {δ : List (Option Pd)} {ta tb tc te : TE} {t u : TT} {P R S T : Pd} {t1 t2 : TS} {C D fI : Addr}
theorem err_new {G H : Hp} {v : V} {Q : VK} (c : Cn m G H) (p : P.φ v G) (q : ∀ v G' H', Go m G H G' H' → (errP C P).φ v G' → Q v H') : kErr C v H Q := fun e d he hd ne => by
  have g1 := Go.new (o := .xd [(("what" : Str), v)]) c hd
  have c1 := g1.cn c
  have he1 : (upd H d (.xd [(("what" : Str), v)])) e = none := by rw [upd_ne ne]; exact he
  have g2 := Go.new (o := errO e C d) c1 he1
  refine q _ _ _ (g1.trans g2) ⟨e, d, v, rfl, upd_same, ?_, P.mono _ _ _ p (g1.gg.trans g2.gg)⟩
  rw [upd_ne (Ne.symm ne)]
  exact upd_same
theorem ev_err {tA : TA} (h : EvA m tA δ [P]) : EvD m (tErr C tA) δ (errP C P) := fun σ G H s c Q q =>
  h σ G H s c _ fun vs G1 H1 g1 p1 => by
    obtain ⟨v, rfl, p⟩ := all2_one p1
    exact ⟨v, rfl, err_new (g1.cn c) p fun v G' H' g2 p2 => q v G' H' (g1.trans g2) p2⟩
theorem ev_err0 : EvD m (tErr0 C) δ (errP C (dd K .none)) := fun σ G H s c Q q => err_new (P := dd K .none) c (show Dp K G .non .none from .non) q
theorem ev_errW (U : OweX.Cls K D fI C) (h : EvD m te δ (errP C P)) : EvD m (tErrW K D fI te) δ P := fun σ G H s c Q q =>
  h σ G H s c _ fun x G1 H1 g1 p1 => by
    obtain ⟨e, d, v, rfl, h1, h2, h3⟩ := p1
    exact ⟨e, C, d, v, rfl, U, g1.gh _ _ h1, g1.gh _ _ h2, q v G1 H1 g1 h3⟩
theorem cb_isE {ek : List Str} {x : Str} {c : V} {w : Value} {b : Bool} (U : OweX.Cls K D fI (He.ga K x)) (k : He.EkC K ek x) (hc : ClsV c w) (hb : PySem.W.kitOne K (.ref (He.ga K x)) w = some b) : CbD m (rIsE K D fI) [errP (He.ga K x) P, vv c] (db K b) := fun vs G H cn a Q q => by
  obtain ⟨v, w', rfl, ⟨e, d, u, rfl, h1, h2, h3⟩, r⟩ := all2_two a
  cases (show w' = c from r)
  exact ⟨e, _, d, c, w, b, rfl, cn.gh _ _ h1, ⟨u, cn.gh _ _ h2⟩, U, k.ha, k.hn, k.htk, k.hm, hc, hb, q _ G H (Go.refl cn) (.bl _)⟩
/-- == of two values of the same data: both without dicts, or both one dict of flat values -/
theorem ev_eqQ {d e : PyData} (ha : EvD m ta δ (dd K d)) (hb : EvD m tb δ (dd K e)) (h1 : SeqAt.shaped d = true) (h2 : SeqAt.shaped e = true) : EvD m (tOp (fun x y H Q => rEqD K x y H Q ∨ rEqDA x y H Q) ta tb) δ (db K (PyData.eqv d e)) := ev_op ha hb fun x y G H c px py Q q =>
  .inl ⟨d, e, Dp.mono c.gh px, Dp.mono c.gh py, h1, h2, q _ G H (Go.refl c) (.bl _)⟩
theorem pget_map {α : Type} (f : α → Pd) {l : List α} {i : Nat} {x : α} (h : l[i]? = some x) : pget (l.map f) i = f x := by
  unfold pget
  rw [List.getElem?_map, h]
  rfl
/-- xs[k], k known -/
theorem ev_lsAt {Ps : List Pd} {k : Nat} (ha : EvD m ta δ (ls Ps)) (hb : EvD m tb δ (di K (k : Int))) (hk : k < Ps.length) : EvD m (tOp (rIxL K) ta tb) δ (pget Ps k) := ev_op ha hb fun x y G H c px py Q q => by
  cases py
  obtain ⟨a, vs, rfl, h1, d1⟩ := px
  obtain ⟨v, e, p⟩ := d1.get (i := k) (List.getElem?_eq_getElem hk)
  refine ⟨a, vs, (k : Int), v, rfl, rfl, .inl (.inl (c.gh _ _ h1)), ?_, q _ G H (Go.refl c) ?_⟩
  · unfold L2.atI ixN
    rw [if_pos (by omega), if_pos (by rw [d1.length]; omega)]
    exact e
  · unfold pget
    rw [List.getElem?_eq_getElem hk]
    exact p
theorem Bo.onlyRt {ι : Io} {O : Oo} {r : Pd → Prop} (h : Bo m E t1 ι δ { rt := r }) (k : ∀ R, r R → O.rt R) : Bo m E t1 ι δ O := fun σ G H Dd ap c s kx =>
  h σ G H Dd ap c s ⟨fun _ _ _ _ _ z => z.elim, fun S v G' H' h g p => kx.rt S v G' H' (k S h) g p, fun _ _ _ _ _ z => z.elim, fun _ _ _ _ _ z => z.elim, fun _ _ _ _ _ _ z => z.elim⟩
theorem all2_dd {G : Hp} : ∀ {vs : List V} {ds : List PyData}, All2 G vs (ds.map (dd K)) → DpAll K G vs ds
  | _, [], .nil => .nil
  | _, _ :: _, .cons h t => .cons h (all2_dd t)
theorem EvD.lsd {ds : List PyData} (h : EvD m te δ (ls (ds.map (dd K)))) : EvD m te δ (dd K (.list ds)) := h.to fun v G ⟨a, vs, e, h1, d1⟩ => by
  subst e
  exact .lst (.inl (.inl h1)) (all2_dd d1)
theorem fng_bl {Pg : Program} {w : World} {mg : Str → Option Value} {base : Heap} {CX : CXT} {x qual : Str} {params : Arguments} {body : List Stmt} {scope : Scope} {dvs : List V} {kws : List (Str × V)} {f : Addr} {fd : FuncData} {N ps : List Str} {k : Nat}
    {F : Md → List Pd → Oc → Prop} (Fn : FunD K x qual params body scope dvs kws f fd) (Sc : FnScope N ps scope) (hlen : ∀ m Ps O, F m Ps O → Ps.length = ps.length)
    (hb : ∀ (cdv : Value) (A : Around) (outer : List Env) (s : Shared) (H : Hp) (E : XK), Room k (A.deeper (envOfC qual scope s.heap.objs.size f cdv)) → A.guards = some [] →
      ∃ t, PSs (cxOf CX Pg w K mg base N qual scope f cdv A outer s H E) body t ∧
        ∀ m Ps O, F m Ps O → Bl m E t (Ps.map some ++ List.replicate (N.length - Ps.length) none) (match O with | .ret S => { nx := fun _ => ∀ G, S.φ .non G, rt := fun R => R = S } | .exc C P => { ex := fun C' P' => C' = C ∧ P' = P })) :
    FnG Pg w K mg base CX (k + 1) f fd ps (spF F) := by
  refine fng_ok Fn Sc (fun vs H Q E h => ?_) (fun cdv A outer s H vs Q E hr hg h => ?_)
  · obtain ⟨m, G, Ps, O, hf, c, a, _⟩ := h
    rw [a.length, hlen m Ps O hf]
  · obtain ⟨t, pt, bl⟩ := hb cdv A outer s H E hr hg
    refine ⟨t, pt, ?_⟩
    obtain ⟨m, G, Ps, O, hf, c, a, q⟩ := h
    have b := bl m Ps O hf
    have st := sl_start (N := N) a
    cases O with
    | ret S =>
      exact b _ G H _ st c ⟨fun δ' σ' G' H' hn g s' => q .non G' H' g (hn G'), fun S' v G' H' e g p => q v G' H' g (by cases e; exact p), fun _ _ _ _ z => z.elim, fun _ _ _ _ z => z.elim, fun _ _ _ _ _ _ z => z.elim⟩
    | exc C P =>
      exact b _ G H _ st c ⟨fun _ _ _ _ z => z.elim, fun _ _ _ _ z => z.elim, fun _ _ _ _ z => z.elim, fun _ _ _ _ z => z.elim, fun C' P' d v G' H' z g e => by obtain ⟨rfl, rfl⟩ := z; exact q d v G' H' g e⟩
theorem dict_ints {G : Hp} : ∀ {es : List (Int × Int)} {kvs : List (L2.Key × V)}, kvs.map (fun q => keyD q.1) = (es.map fun q => ((PyData.int q.1, PyData.int q.2) : PyData × PyData)).map (·.1) → DqAll K G (kvs.map (·.2)) ((es.map fun q => ((PyData.int q.1, PyData.int q.2) : PyData × PyData)).map (·.2)) → kvs = es.map fun q => (Sum.inl q.1, V.int q.2)
  | [], [], _, _ => rfl
  | [], _ :: _, h, _ => by simp at h
  | _ :: _, [], h, _ => by simp at h
  | (i, j) :: es, (k, v) :: kvs, h, a => by
    simp only [List.map_cons, List.cons.injEq] at h
    obtain ⟨h1, h2⟩ := h
    cases a with
    | cons d r =>
      have e := dict_ints h2 r
      have ek : k = Sum.inl i := by
        cases k with
        | inl z => exact congrArg Sum.inl (PyData.int.inj h1)
        | inr z => cases h1
      have ev : v = V.int j := by
        have d' : Dq K G v (.int j) := d
        cases d'
        rfl
      rw [e, ek, ev]
      rfl
/-- == of two dicts that are alike, their values ints -/
theorem ev_eqDict {es : List (Int × Int)} (ha : EvD m ta δ (dq K (.dict (es.map fun q => (.int q.1, .int q.2))))) (hb : EvD m tb δ (dq K (.dict (es.map fun q => (.int q.1, .int q.2))))) (hl : es.length ≤ 1) : EvD m (tOp (fun x y H Q => rEqD K x y H Q ∨ rEqDA x y H Q) ta tb) δ (db K true) := ev_op ha hb fun x y G H c px py Q q => by
  cases px with
  | @dct a ks _ h1 h2 h3 =>
    cases py with
    | @dct b ls _ g1 g2 g3 =>
      cases dict_ints h2 h3
      cases dict_ints g2 g3
      refine .inr ⟨a, b, _, _, rfl, rfl, c.gh _ _ h1, c.gh _ _ g1, rfl, ?_, q _ G H (Go.refl c) (.bl _)⟩
      match es, hl with
      | [], _ => exact fun p hp => nomatch hp
      | [(i, j)], _ =>
        intro p hp
        rcases List.mem_cons.mp hp with rfl | hp
        · exact ⟨by simp [valV], rfl⟩
        · cases hp
end
end Nd

namespace Law
open PySem PySem.Spec PyProof.Rows L2 Nd
def top (i : Nat) : Stmt := PySem.Challenge.pw_neverowing_k01_errors_of_the_package.main.body.getD i (.Pass ⟨0, 0, 0, 0⟩)
abbrev sLCell : Stmt := top 37
theorem scLCell : FnScope ["_law_script", "_law_at"] ["_law_script", "_law_at"] (defScope sLCell) := ⟨rfl, rfl, rfl, by decide +kernel, rfl, by decide +kernel, by decide +kernel⟩
abbrev sLState : Stmt := top 38
theorem scLState : FnScope ["_law_cell_here"] ["_law_cell_here"] (defScope sLState) := ⟨rfl, rfl, rfl, by decide +kernel, rfl, by decide +kernel, by decide +kernel⟩
abbrev sLTake : Stmt := top 39
theorem scLTake : FnScope ["_law_state_here", "_law_many", "_law_digit", "_law_mixed"] ["_law_state_here", "_law_many"] (defScope sLTake) := ⟨rfl, rfl, rfl, by decide +kernel, rfl, by decide +kernel, by decide +kernel⟩
abbrev sLOneOf : Stmt := top 40
theorem scLOneOf : FnScope ["_law_state_here", "_law_items"] ["_law_state_here", "_law_items"] (defScope sLOneOf) := ⟨rfl, rfl, rfl, by decide +kernel, rfl, by decide +kernel, by decide +kernel⟩
abbrev sLStrange : Stmt := top 41
theorem scLStrange : FnScope ["_law_state_here", "_law_found"] ["_law_state_here"] (defScope sLStrange) := ⟨rfl, rfl, rfl, by decide +kernel, rfl, by decide +kernel, by decide +kernel⟩
abbrev sLPlaced : Stmt := top 42
theorem scLPlaced : FnScope ["_law_thing", "_law_found"] ["_law_thing"] (defScope sLPlaced) := ⟨rfl, rfl, rfl, by decide +kernel, rfl, by decide +kernel, by decide +kernel⟩
abbrev sLNamed : Stmt := top 43
theorem scLNamed : FnScope ["_law_thing", "_law_found"] ["_law_thing"] (defScope sLNamed) := ⟨rfl, rfl, rfl, by decide +kernel, rfl, by decide +kernel, by decide +kernel⟩
abbrev sLEmpty : Stmt := top 44
theorem scLEmpty : FnScope ["_law_found"] [] (defScope sLEmpty) := ⟨rfl, rfl, rfl, by decide +kernel, rfl, by decide +kernel, by decide +kernel⟩
abbrev sLMarks : Stmt := top 45
theorem scLMarks : FnScope ["_law_error", "_law_found"] ["_law_error"] (defScope sLMarks) := ⟨rfl, rfl, rfl, by decide +kernel, rfl, by decide +kernel, by decide +kernel⟩
abbrev sLIsError : Stmt := top 46
theorem scLIsError : FnScope ["_law_error", "_law_thing"] ["_law_error", "_law_thing"] (defScope sLIsError) := ⟨rfl, rfl, rfl, by decide +kernel, rfl, by decide +kernel, by decide +kernel⟩
abbrev sLaw : Stmt := top 47
theorem scLaw : FnScope ["_law_script", "_law_state_here", "_law_turn", "_law_thing", "_law_placed_here", "_law_named_here", "_law_empty_here", "_law_at", "_law_due", "_law_number"] ["_law_script"] (defScope sLaw) := ⟨rfl, rfl, rfl, by decide +kernel, rfl, by decide +kernel, by decide +kernel⟩
def dLCell : He.DefD := ⟨("_law_cell", none), "_law_cell", "_law_cell", defArgs sLCell, defBody sLCell, defScope sLCell, [], []⟩
def dLState : He.DefD := ⟨("_law_state", none), "_law_state", "_law_state", defArgs sLState, defBody sLState, defScope sLState, [], []⟩
def dLTake : He.DefD := ⟨("_law_take", none), "_law_take", "_law_take", defArgs sLTake, defBody sLTake, defScope sLTake, [], []⟩
def dLOneOf : He.DefD := ⟨("_law_one_of", none), "_law_one_of", "_law_one_of", defArgs sLOneOf, defBody sLOneOf, defScope sLOneOf, [], []⟩
def dLStrange : He.DefD := ⟨("_law_strange", none), "_law_strange", "_law_strange", defArgs sLStrange, defBody sLStrange, defScope sLStrange, [], []⟩
def dLPlaced : He.DefD := ⟨("_law_placed", none), "_law_placed", "_law_placed", defArgs sLPlaced, defBody sLPlaced, defScope sLPlaced, [], []⟩
def dLNamed : He.DefD := ⟨("_law_named", none), "_law_named", "_law_named", defArgs sLNamed, defBody sLNamed, defScope sLNamed, [], []⟩
def dLEmpty : He.DefD := ⟨("_law_empty", none), "_law_empty", "_law_empty", defArgs sLEmpty, defBody sLEmpty, defScope sLEmpty, [], []⟩
def dLMarks : He.DefD := ⟨("_law_marks", none), "_law_marks", "_law_marks", defArgs sLMarks, defBody sLMarks, defScope sLMarks, [], []⟩
def dLIsError : He.DefD := ⟨("_law_is_error", none), "_law_is_error", "_law_is_error", defArgs sLIsError, defBody sLIsError, defScope sLIsError, [], []⟩
def dLaw : He.DefD := ⟨("law", none), "law", "law", defArgs sLaw, defBody sLaw, defScope sLaw, [], []⟩
def fn : List He.DefD := [dLCell, dLState, dLTake, dLOneOf, dLStrange, dLPlaced, dLNamed, dLEmpty, dLMarks, dLIsError, dLaw]
def fa0 : List He.Fa := [.glo "_law_cell", .glo "_law_state", .glo "_law_take", .glo "_law_one_of", .glo "_law_strange", .glo "_law_placed", .glo "_law_named", .glo "_law_empty", .glo "_law_marks", .glo "_law_is_error", .glo "law", .glo "OweError", .glo "BadShare", .glo "BadWorld", .glo "NoStanding", .glo "NoAsk", .glo "NoAnswer", .glo "BadPrice", .glo "BadOrder", .glo "BadCount", .glo "TooMany", .glo "BadIncome", .glo "BadTable", .glo "BadWhole", .glo "BadLink", .glo "BadIncomes", .glo "BadPapers", .glo "BadRule", .glo "BadLot", .glo "BadGap"]
def fa1 : List He.Fa := [.glo "BadPlace", .glo "BadExchange", .glo "NoRoom", .glo "BadPair", .glo "BadSeats", .glo "BadWish", .glo "BadRecipes", .glo "BadValue", .glo "BadDiary", .glo "BadName", .glo "BadRow", .glo "NoTurn", .glo "Owing", .glo "NoSafe", .glo "BadDeed", .glo "BadText", .free "len", .free "int", .free "isinstance", .free "range", .free "abs", .free "repr", .free "super", .free "ValueError"]
def fa : List He.Fa := fa0 ++ fa1
def loose0 : List PySem.Str := ["OweError", "BadShare", "BadWorld", "NoStanding", "NoAsk", "NoAnswer", "BadPrice", "BadOrder", "BadCount", "TooMany", "BadIncome", "BadTable", "BadWhole", "BadLink", "BadIncomes", "BadPapers", "BadRule", "BadLot", "BadGap", "BadPlace", "BadExchange", "NoRoom", "BadPair", "BadSeats", "BadWish", "BadRecipes", "BadValue", "BadDiary", "BadName", "BadRow"]
def loose1 : List PySem.Str := ["NoTurn", "Owing", "NoSafe", "BadDeed", "BadText", "_law_cell", "_law_state", "_law_take", "_law_one_of", "_law_strange", "_law_placed", "_law_named", "_law_empty", "_law_marks", "_law_is_error"]
def loose : List PySem.Str := loose0 ++ loose1
def ics : List PySem.Str := []
def eks : List PySem.Str := (["OweError", "BadShare", "BadWorld", "NoStanding", "NoAsk", "NoAnswer", "BadPrice", "BadOrder", "BadCount", "TooMany", "BadIncome", "BadTable", "BadWhole", "BadLink", "BadIncomes", "BadPapers", "BadRule", "BadLot", "BadGap", "BadPlace", "BadExchange", "NoRoom", "BadPair", "BadSeats", "BadWish", "BadRecipes", "BadValue", "BadDiary", "BadName", "BadRow"] : List (PySem.Str)) ++ (["NoTurn", "Owing", "NoSafe", "BadDeed", "BadText"] : List (PySem.Str))
def exs : List PySem.Str := (["OweError", "BadShare", "BadWorld", "NoStanding", "NoAsk", "NoAnswer", "BadPrice", "BadOrder", "BadCount", "TooMany", "BadIncome", "BadTable", "BadWhole", "BadLink", "BadIncomes", "BadPapers", "BadRule", "BadLot", "BadGap", "BadPlace", "BadExchange", "NoRoom", "BadPair", "BadSeats", "BadWish", "BadRecipes", "BadValue", "BadDiary", "BadName", "BadRow"] : List (PySem.Str)) ++ (["NoTurn", "Owing", "NoSafe", "BadDeed", "BadText"] : List (PySem.Str))
def xms : List (PySem.Str × PySem.Str × Bool) := []
def ow : He.OwW := He.oweVal ⟨4, 17, 4, 21⟩ ⟨4, 23, 4, 27⟩ ⟨4, 28, 4, 32⟩ ⟨5, 8, 5, 13⟩ ⟨5, 8, 5, 15⟩ ⟨5, 8, 5, 24⟩ ⟨5, 25, 5, 29⟩ ⟨5, 8, 5, 30⟩ ⟨5, 8, 5, 30⟩ ⟨6, 8, 6, 12⟩ ⟨6, 8, 6, 17⟩ ⟨6, 20, 6, 24⟩ ⟨6, 8, 6, 24⟩
abbrev PP : Program := PySem.Challenge.pw_neverowing_k01_errors_of_the_package

abbrev Says (K : PySem.W.Frag) : Prop := He.SaysW fa fn exs ics eks xms PP.main.file ow K
theorem txt {K : PySem.W.Frag} (c : Says K) : OweX.Txt PP K (He.oD K) (He.oI K) ∧ ∃ o, K.lookup sysModules = some o ∧ o.cls = .type "dict" := He.owe_ok c.w c.b rfl (by decide +kernel)
def FCell (K : PySem.W.Frag) : Md → List Pd → Oc → Prop := fun _ Ps O => ∃ (ns : List Int) (i : Nat), Ps = [dd K (.list (ns.map PyData.int)), di K (i : Int)] ∧ O = .ret (exI K fun _ => True)
def nms : List PySem.Str := (["BadShare", "BadWorld", "NoStanding", "NoAsk", "NoAnswer", "BadPrice", "BadOrder", "BadCount", "TooMany", "BadIncome", "BadTable", "BadWhole", "BadLink", "BadIncomes", "BadPapers", "BadRule", "BadLot", "BadGap", "BadPlace", "BadExchange", "NoRoom", "BadPair", "BadSeats", "BadWish", "BadRecipes", "BadValue", "BadDiary", "BadName", "BadRow", "NoTurn"] : List (PySem.Str)) ++ (["Owing", "NoSafe", "BadDeed", "BadText"] : List (PySem.Str))
def odds : List PyData := [.none, .bool true, .bool false, .int (-1), .str "0", .str "", .tuple [], .tuple [.int 0], .list [.int 0], .dict [], .dict [(.int 0, .int 0)], .tuple [.tuple [.bool true]], .list [.list [], .tuple [.none, .str "a"]]]
def errPs (K : PySem.W.Frag) (P : Pd) : List Pd := nms.map fun x => errP (He.ga K x) P
def FOneOf (K : PySem.W.Frag) : Md → List Pd → Oc → Prop := fun m Ps O => ∃ st Qs, Tk m st ∧ 0 < Qs.length ∧ Qs.length < 1000 ∧ Ps = [vv (.ref st), ls Qs] ∧ O = .ret (exP (fun i : Nat => i < Qs.length) (pget Qs))
def FStrange (K : PySem.W.Frag) : Md → List Pd → Oc → Prop := fun m Ps O => ∃ st, Tk m st ∧ Ps = [vv (.ref st)] ∧ O = .ret (exP (fun i : Nat => i < (odds.map (dq K)).length) (pget (odds.map (dq K))))
def FPlaced (K : PySem.W.Frag) : Md → List Pd → Oc → Prop := fun _ Ps O => ∃ P, Ps = [P] ∧ O = .ret (ls (errPs K P))
def FEmpty (K : PySem.W.Frag) : Md → List Pd → Oc → Prop := fun _ Ps O => Ps = [] ∧ O = .ret (ls (errPs K (dq K .none)))
def marksB (x : PySem.Str) : List Bool := nms.map fun y => decide (x = y) || decide (y = "OweError")
def marks (x : PySem.Str) : List PyData := (marksB x).map PyData.bool
def FMarks (K : PySem.W.Frag) : Md → List Pd → Oc → Prop := fun _ Ps O => ∃ x P, x ∈ eks ∧ Ps = [errP (He.ga K x) P] ∧ O = .ret (dd K (.list (marks x)))
def FIsErr (K : PySem.W.Frag) : Md → List Pd → Oc → Prop := fun _ Ps O => ∃ x d, x ∈ eks ∧ d ∈ odds ∧ Ps = [errP (He.ga K x) (dq K d), dq K d] ∧ O = .ret (db K true)

theorem absI (i : Int) : (if i < 0 then -i else i) = (i.natAbs : Int) := by split <;> omega

def tMk (K : PySem.W.Frag) : List PySem.Str → TS
  | [] => tRet (tVar 1)
  | y :: r => tSeq (tDrop (tBM K "list" rAppend (tVar 1) (tCons (tCB (rIsE K (He.oD K) (He.oI K)) (tCons (tVar 0) (tCons (tC (.ref (He.ga K y))) tNil))) tNil))) (tMk K r)
theorem marks_run {K : PySem.W.Frag} {m : Md} {E : XK} {x : PySem.Str} {P : Pd} (U : OweX.Cls K (He.oD K) (He.oI K) (He.ga K x)) (k : He.EkC K eks x) : ∀ (ys : List PySem.Str) (done : List PyData) (p : Addr) (vs : List V), (∀ y ∈ ys, y ∈ eks) → done.length + ys.length ≤ 1000 →
    Bo m E (tMk K ys) [(p, .lst vs)] [some (errP (He.ga K x) P), some (ownV p (.lst vs) (ownL (done.map (dd K))))] { rt := fun R => R = dd K (.list (done ++ ys.map fun y => .bool (decide (x = y) || decide (y = "OweError")))) }
  | [], done, p, vs, _, _ => by
    rw [List.map_nil, List.append_nil]
    exact bo_known (i := 1) (Ps := done.map (dd K)) rfl rfl (bo_ret (EvD.lsd (ev_var rfl)) rfl)
  | y :: ys, done, p, vs, hy, hl => by
    have hb := k.kit y (hy y List.mem_cons_self)
    refine bo_app (P := db K (decide (x = y) || decide (y = "OweError"))) List.mem_cons_self rfl (by rw [List.length_map]; simp only [List.length_cons] at hl; omega) (ev_cb (ea_cons (ev_var rfl) (ea_cons ev_val ea_nil)) (cb_isE U k (.own _) hb)) (fun v => ?_)
    rw [rep_one]
    have ih := marks_run (m := m) (E := E) (P := P) U k ys (done ++ [.bool (decide (x = y) || decide (y = "OweError"))]) p (vs ++ [v]) (fun z hz => hy z (List.mem_cons_of_mem _ hz)) (by simp only [List.length_append, List.length_cons, List.length_nil] at hl ⊢; omega)
    rw [List.append_assoc] at ih
    rw [List.map_append] at ih
    exact ih

theorem odds_show : ∀ d ∈ odds, d.showable = true ∧ d.shown.length ≤ sizeLine ∧ d.depth ≤ 100 := by decide +kernel
theorem odds_kind (d : PyData) (h : d ∈ odds) : (d.hasDict = false ∧ SeqAt.shaped d = true ∧ PyData.eqv d d = true) ∨ d = .dict [] ∨ d = .dict [(.int 0, .int 0)] := by
  simp only [odds, List.mem_cons, List.not_mem_nil, or_false] at h
  rcases h with rfl | rfl | rfl | rfl | rfl | rfl | rfl | rfl | rfl | rfl | rfl | rfl | rfl
  all_goals first | exact .inl (by decide +kernel) | exact .inr (.inl rfl) | exact .inr (.inr rfl)

theorem ok_LCell {w : World} {K : PySem.W.Frag} {h : Heap} {mg : Str → Option Value} {base : Heap} (X : K.In h) (Gm : h.Ns mainGlobals mg) (c : Says K) : ∃ fd, FnOk PP w K mg base CX0 1 (He.ga K "_law_cell") fd ["_law_script", "_law_at"] (spF (FCell K)) ∧ FunD K dLCell.name dLCell.qual dLCell.params dLCell.body dLCell.scope (He.DefD.dvs K dLCell) (He.DefD.kws K dLCell) (He.fAd K dLCell.at_) fd ∧ PySem.W.keepIn K (.ref (He.ga K "_law_cell")) = true := by
  obtain ⟨fd, F⟩ := c.d.def_ 0 (d := dLCell) rfl
  refine ⟨fd, ?_, F, F.kp⟩
  have mg_int := He.free_ok X Gm (c.d.fact 47 (f := .free "int") rfl)
  have mg_len := He.free_ok X Gm (c.d.fact 46 (f := .free "len") rfl)
  have TX := (txt c).1
  have SM := (txt c).2
  have EK : ∀ x ∈ eks, He.EkC K eks x := fun x hx => He.ek_ok (List.all_eq_true.mp c.k x hx)
  refine fn_ok (k := 0) F scLCell ?len (fun cdv A outer s H E hr => ⟨_, PSs.nox (pss_cons (ps_if (pt_cmpR op_lt (pv 1) (pe_callB (call_lenK (K := K) rfl) (by rfl) mg_len PySem.boot_len (pa_cons (pv 0) pa_nil)) (nomark _))
  (pss_one (ps_ret (pe_callTy call_int1 (by rfl) mg_int (by decide +kernel) (pa_cons (pe_ix (ix_listK (K := K) rfl) (pv 0) (pv 1) (fun _ _ => rfl)) pa_nil)))) pss_nil)
  (pss_one (ps_ret pe_int))), ?_⟩)
  case len => rintro m Ps O ⟨ns, i, rfl, _⟩; rfl
  rintro m Ps O ⟨ns, i, rfl, rfl⟩
  refine bl_ifR (eb_test (ev_lt (K := K) (ev_var rfl) (ev_cb (ea_cons (ev_var rfl) ea_nil) cb_lenL))) (fun hb => ?_) (fun _ => ?_)
  · have hi : i < (ns.map PyData.int).length := by have := of_decide_eq_true hb; omega
    have hi2 : i < ns.length := by rw [List.length_map] at hi; exact hi
    refine bl_retS ((ev_cb (S := di K ns[i]) (ea_cons (ev_ixL (K := K) (d := .int ns[i]) (ev_var rfl) (ev_var rfl) ?_) ea_nil) cb_int).to fun v G p => (⟨ns[i], trivial, p⟩ : (exI K fun _ => True).φ v G)) rfl
    unfold L2.atI ixN
    rw [if_pos (by omega), if_pos (by omega)]
    simp [hi2]
  · exact bl_nextS (bl_ret ((ev_int (K := K)).to fun v G p => (⟨0, trivial, p⟩ : (exI K fun _ => True).φ v G)) rfl)

theorem ok_LState {w : World} {K : PySem.W.Frag} {h : Heap} {mg : Str → Option Value} {base : Heap} (X : K.In h) (Gm : h.Ns mainGlobals mg) (c : Says K) : ∃ fd, FnOk PP w K mg base CX0 1 (He.ga K "_law_state") fd ["_law_cell_here"] (spState K) ∧ FunD K dLState.name dLState.qual dLState.params dLState.body dLState.scope (He.DefD.dvs K dLState) (He.DefD.kws K dLState) (He.fAd K dLState.at_) fd ∧ PySem.W.keepIn K (.ref (He.ga K "_law_state")) = true := by
  obtain ⟨fd, F⟩ := c.d.def_ 1 (d := dLState) rfl
  refine ⟨fd, ?_, F, F.kp⟩
  have mg_abs := He.free_ok X Gm (c.d.fact 50 (f := .free "abs") rfl)
  have mg_int := He.free_ok X Gm (c.d.fact 47 (f := .free "int") rfl)
  have TX := (txt c).1
  have SM := (txt c).2
  have EK : ∀ x ∈ eks, He.EkC K eks x := fun x hx => He.ek_ok (List.all_eq_true.mp c.k x hx)
  refine F.ok (k := 0) scLState ?len (fun cdv A outer s H vs Q E hr hsp => ⟨_, PSs.nox (pss_cons (ps_if (pt_cmpR op_ge (pe_callB call_abs (by rfl) mg_abs (by decide +kernel) (pa_cons (pv 0) pa_nil)) (pe_op op_pow pe_int pe_int) (nomark _))
  (pss_one (ps_ret (pe_lst (pa_cons (pe_callB call_abs (by rfl) mg_abs (by decide +kernel) (pa_cons (pv 0) pa_nil)) (pa_cons pe_int (pa_cons pe_int pa_nil)))))) pss_nil)
  (pss_one (ps_ret (pe_lst (pa_cons pe_int (pa_cons (pe_op op_mod (pe_callTy call_int1 (by rfl) mg_int (by decide +kernel) (pa_cons (pv 0) pa_nil)) pe_int) (pa_cons pe_int pa_nil))))))), ?_⟩)
  case len => rintro vs H Q E ⟨c, rfl, _⟩; rfl
  obtain ⟨c, rfl, hQ⟩ := hsp
  refine ⟨_, rfl, c, rfl, 10, 18, rfl, rfl, ⟨by decide, by decide, by decide⟩, _, _, rfl, rfl, _, rfl, ?_⟩
  have fin : ∀ (big s : Int) (st : Addr), 0 ≤ big → 0 ≤ s → s < 2147483563 → H st = none → Q (.ref st) (upd H st (.lst [.int big, .int s, .int 0])) := fun big s st h1 h2 h3 hst =>
    hQ st _ hst (fun b o e => by rw [upd_ne (ne_of_none e hst)]; exact e) ⟨big, s, 0, upd_same, h1, h2, h3, by decide⟩
  by_cases hb : (10 : Int) ^ (18 : Int).toNat ≤ (if c < 0 then -c else c)
  · rw [decide_eq_true hb]
    dsimp only
    rw [if_pos rfl]
    refine ⟨_, rfl, c, rfl, by show 3 ≤ sizeLine; decide, fun st hst => ?_⟩
    exact fin _ 0 st (by rw [absI]; omega) (by decide) (by decide) hst
  · rw [decide_eq_false hb]
    dsimp only
    rw [if_neg Bool.false_ne_true]
    refine ⟨_, rfl, .inl ⟨c, rfl, _, _, rfl, rfl, by show (0 : Int) < 2147483563; decide, by show 3 ≤ sizeLine; decide, fun st hst => ?_⟩⟩
    exact fin 0 _ st (by decide) (Int.emod_nonneg _ (by decide)) (Int.emod_lt_of_pos _ (by decide)) hst

theorem ok_LTake {w : World} {K : PySem.W.Frag} {h : Heap} {mg : Str → Option Value} {base : Heap} (X : K.In h) (Gm : h.Ns mainGlobals mg) (c : Says K) : ∃ fd, FnOk PP w K mg base CX0 1 (He.ga K "_law_take") fd ["_law_state_here", "_law_many"] (spF (FTake K)) ∧ FunD K dLTake.name dLTake.qual dLTake.params dLTake.body dLTake.scope (He.DefD.dvs K dLTake) (He.DefD.kws K dLTake) (He.fAd K dLTake.at_) fd ∧ PySem.W.keepIn K (.ref (He.ga K "_law_take")) = true := by
  obtain ⟨fd, F⟩ := c.d.def_ 2 (d := dLTake) rfl
  refine ⟨fd, ?_, F, F.kp⟩
  have mg_int := He.free_ok X Gm (c.d.fact 47 (f := .free "int") rfl)
  have TX := (txt c).1
  have SM := (txt c).2
  have EK : ∀ x ∈ eks, He.EkC K eks x := fun x hx => He.ek_ok (List.all_eq_true.mp c.k x hx)
  refine F.ok (k := 0) scLTake ?len (fun cdv A outer s H vs Q E hr hsp => ⟨_, PSs.nox (pss_cons (ps_if (pt_cmpR op_gt (pe_ix (ix_listK (K := K) rfl) (pv 0) pe_int (fun _ _ => rfl)) pe_int (nomark _))
  (pss_cons (ps_set (i := 2) scLTake.nd rfl (by first | exact Or.inl rfl | exact Or.inr rfl) (pe_op op_mod (pe_callTy call_int1 (by rfl) mg_int (by decide +kernel) (pa_cons (pe_ix (ix_listK (K := K) rfl) (pv 0) pe_int (fun _ _ => rfl)) pa_nil)) (pv 1)))
  (pss_cons (ps_asg (pe_op op_fdiv (pe_ix (ix_listK (K := K) rfl) (pv 0) pe_int (fun _ _ => rfl)) (pv 1)) (pg_sub (pv 0) pe_int set_list))
  (pss_one (ps_ret (pv 2))))) pss_nil)
  (pss_cons (ps_asg (pe_op op_add (pe_ix (ix_listK (K := K) rfl) (pv 0) pe_int (fun _ _ => rfl)) pe_int) (pg_sub (pv 0) pe_int set_list))
  (pss_cons (ps_set (i := 3) scLTake.nd rfl (by first | exact Or.inl rfl | exact Or.inr rfl) (pe_op op_mod (pe_callTy call_int1 (by rfl) mg_int (by decide +kernel) (pa_cons (pe_op op_mul (pe_op op_add (pe_op op_add (pe_ix (ix_listK (K := K) rfl) (pv 0) pe_int (fun _ _ => rfl)) (pe_op op_mul pe_int (pe_ix (ix_listK (K := K) rfl) (pv 0) pe_int (fun _ _ => rfl)))) pe_int) pe_int) pa_nil)) pe_int))
  (pss_cons (ps_set (i := 3) scLTake.nd rfl (by first | exact Or.inl rfl | exact Or.inr rfl) (pe_op op_mod (pe_callTy call_int1 (by rfl) mg_int (by decide +kernel) (pa_cons (pe_op op_mul (pv 3) (pe_op op_add (pe_op op_fdiv (pv 3) pe_int) pe_int)) pa_nil)) pe_int))
  (pss_one (ps_ret (pe_op op_mod (pe_callTy call_int1 (by rfl) mg_int (by decide +kernel) (pa_cons (pe_op op_fdiv (pe_op op_mod (pe_op op_mul (pv 3) (pe_op op_add (pe_op op_fdiv (pv 3) pe_int) pe_int)) pe_int) pe_int) pa_nil)) (pv 1)))))))), ?_⟩)
  case len => rintro vs H Q E ⟨m, G, Ps, O, ⟨st, many, hd, rfl, _⟩, c, a, _⟩; rw [a.length]; rfl
  obtain ⟨m, G, Ps, O, ⟨st, many, hd, rfl, hm, hm2, rfl⟩, c, al, q⟩ := hsp
  obtain ⟨v, w, rfl, p, r⟩ := all2_two al
  cases (show v = V.ref st from p)
  cases r
  obtain ⟨big, s0, k, hst, hbig, hs1, hs2, hk⟩ := hd.inv H c.iv
  have fin : ∀ (d big' k' : Int), 0 ≤ big' → 0 ≤ k' → 0 ≤ d → d < many → Q (.int d) (upd H st (.lst [.int big', .int s0, .int k'])) := by
    intro d big' k' hb' hk' h1 h2
    have kk : ∀ a o, a ≠ st → H a = some o → (upd H st (.lst [.int big', .int s0, .int k'])) a = some o := fun a o ne e => by rw [upd_ne ne]; exact e
    refine q (.int d) G _ ⟨Same.refl G, fun a o e => kk a o (fun z => ?_) (c.gh a o e), fun a o e n => (by rw [e] at n; cases n), fun a o z e => kk a o (fun w => z (by rw [w]; exact hd.chg)) e, hd.back H _ c.iv kk ⟨big', s0, k', upd_same, hb', hs1, hs2, hk'⟩⟩ ⟨d, ⟨h1, h2⟩, .int d⟩
    rw [z, c.nm st hd.chg] at e; cases e
  have rd : ∀ (H' : Hp) (xs : List V), H' st = some (.lst xs) → SqL K H' st xs := fun H' xs e => .inl (.inl e)
  refine ⟨_, rfl, st, _, 0, _, rfl, rfl, rd _ _ hst, rfl, _, _, rfl, rfl, _, rfl, ?_⟩
  by_cases hpos : 0 < big
  · rw [decide_eq_true hpos]
    dsimp only
    rw [if_pos rfl]
    refine ⟨_, rfl, st, _, 0, _, rfl, rfl, rd _ _ hst, rfl, .inl ⟨big, rfl, _, rfl, big, many, rfl, rfl, hm, ?_⟩⟩
    refine ⟨_, rfl, st, _, 0, _, rfl, rfl, rd _ _ hst, rfl, _, rfl, big, many, rfl, rfl, ⟨hm, by omega⟩, _, rfl, st, _, 0, 0, rfl, rfl, hst, rfl, _, rfl, ?_⟩
    exact fin (big % many) (big / many) k (Int.ediv_nonneg hbig (by omega)) hk (Int.emod_nonneg _ (by omega)) (Int.emod_lt_of_pos _ hm)
  · rw [decide_eq_false hpos]
    dsimp only
    rw [if_neg Bool.false_ne_true]
    refine ⟨_, rfl, st, _, 2, _, rfl, rfl, rd _ _ hst, rfl, k, 1, rfl, rfl, _, rfl, st, _, 2, 2, rfl, rfl, hst, rfl, ?_⟩
    have hst2 : (upd H st (.lst [.int big, .int s0, .int (k + 1)])) st = some (.lst [.int big, .int s0, .int (k + 1)]) := upd_same
    refine ⟨_, rfl, st, _, 1, _, rfl, rfl, rd _ _ hst2, rfl, ?_⟩
    refine ⟨_, rfl, st, _, 2, _, rfl, rfl, rd _ _ hst2, rfl, _, _, rfl, rfl, .inl ⟨by decide, by decide⟩, _, _, rfl, rfl, _, _, rfl, rfl, _, _, rfl, rfl, .inr ⟨by decide, by decide⟩, .inl ⟨_, rfl, _, _, rfl, rfl, (by show (0 : Int) < 2147483647; decide), ?_⟩⟩
    obtain ⟨x, hx, hx0, hx1⟩ : ∃ x : Int, x = ((s0 + 6151 * (k + 1) + 17) * 48271) % 2147483647 ∧ 0 ≤ x ∧ x < 2147483647 := ⟨_, rfl, Int.emod_nonneg _ (by decide), Int.emod_lt_of_pos _ (by decide)⟩
    dsimp only
    rw [← hx]
    refine ⟨_, rfl, _, rfl, _, _, rfl, rfl, ⟨by decide, by decide⟩, _, _, rfl, rfl, _, _, rfl, rfl, .inl ⟨by omega, by omega⟩, .inl ⟨_, rfl, _, _, rfl, rfl, (by show (0 : Int) < 2147483399; decide), ?_⟩⟩
    obtain ⟨y, hy, hy0, hy1⟩ : ∃ y : Int, y = (x * (x / 1361 + 69621)) % 2147483399 ∧ 0 ≤ y ∧ y < 2147483399 := ⟨_, rfl, Int.emod_nonneg _ (by decide), Int.emod_lt_of_pos _ (by decide)⟩
    dsimp only
    rw [← hy]
    refine ⟨_, rfl, _, rfl, _, _, rfl, rfl, ⟨by decide, by decide⟩, _, _, rfl, rfl, _, _, rfl, rfl, .inl ⟨by omega, by omega⟩, _, _, rfl, rfl, (by show (0 : Int) < 2147483563; decide), _, _, rfl, rfl, ⟨by decide, by decide⟩, .inl ⟨_, rfl, _, rfl, _, _, rfl, rfl, hm, ?_⟩⟩
    exact fin _ big (k + 1) hbig (by omega) (Int.emod_nonneg _ (by omega)) (Int.emod_lt_of_pos _ hm)

theorem ok_LOneOf {w : World} {K : PySem.W.Frag} {h : Heap} {mg : Str → Option Value} {base : Heap} (X : K.In h) (Gm : h.Ns mainGlobals mg) (c : Says K) : ∃ fd, FnOk PP w K mg base CX0 2 (He.ga K "_law_one_of") fd ["_law_state_here", "_law_items"] (spF (FOneOf K)) ∧ FunD K dLOneOf.name dLOneOf.qual dLOneOf.params dLOneOf.body dLOneOf.scope (He.DefD.dvs K dLOneOf) (He.DefD.kws K dLOneOf) (He.fAd K dLOneOf.at_) fd ∧ PySem.W.keepIn K (.ref (He.ga K "_law_one_of")) = true := by
  obtain ⟨fd, F⟩ := c.d.def_ 3 (d := dLOneOf) rfl
  refine ⟨fd, ?_, F, F.kp⟩
  obtain ⟨fdLTake, GLTake, FLTake, kpLTake⟩ := ok_LTake (w := w) (base := base) X Gm c
  have bLTake : Binds K fdLTake ["_law_state_here", "_law_many"] [] := FLTake.bindsN (ps := ["_law_state_here", "_law_many"]) fun _ _ _ _ _ _ us hl => match us, hl with | [_, _], _ => rfl
  have mg__law_take := He.glo_ok X Gm (c.d.fact 2 (f := .glo "_law_take") rfl)
  have mg_len := He.free_ok X Gm (c.d.fact 46 (f := .free "len") rfl)
  have TX := (txt c).1
  have SM := (txt c).2
  have EK : ∀ x ∈ eks, He.EkC K eks x := fun x hx => He.ek_ok (List.all_eq_true.mp c.k x hx)
  refine fn_ok (k := 1) F scLOneOf ?len (fun cdv A outer s H E hr => ⟨_, PSs.nox (pss_one (ps_ret (pe_ix (ix_listK (K := K) rfl) (pv 1) (pe_call GLTake (hr.mono (by decide)) (by rfl) mg__law_take kpLTake bLTake .nil pass0 (pa_cons (pv 0) (pa_cons (pe_callB (call_lenK (K := K) rfl) (by rfl) mg_len PySem.boot_len (pa_cons (pv 1) pa_nil)) pa_nil))) (fun _ _ => rfl)))), ?_⟩)
  case len => rintro m Ps O ⟨st, Qs, _, _, _, rfl, _⟩; rfl
  rintro m Ps O ⟨st, Qs, tk, h0, h1, rfl, rfl⟩
  exact bl_ret (ev_lsIx (K := K) (n := (Qs.length : Int)) (ev_var rfl) (ev_call (F := FTake K) (ea_cons (ev_var rfl) (ea_cons (ev_cb (ea_cons (ev_var rfl) ea_nil) cb_lenLs) ea_nil)) ⟨st, _, tk, rfl, by omega, by omega, rfl⟩) rfl) rfl

theorem ok_LStrange {w : World} {K : PySem.W.Frag} {h : Heap} {mg : Str → Option Value} {base : Heap} (X : K.In h) (Gm : h.Ns mainGlobals mg) (c : Says K) : ∃ fd, FnOk PP w K mg base CX0 3 (He.ga K "_law_strange") fd ["_law_state_here"] (spF (FStrange K)) ∧ FunD K dLStrange.name dLStrange.qual dLStrange.params dLStrange.body dLStrange.scope (He.DefD.dvs K dLStrange) (He.DefD.kws K dLStrange) (He.fAd K dLStrange.at_) fd ∧ PySem.W.keepIn K (.ref (He.ga K "_law_strange")) = true := by
  obtain ⟨fd, F⟩ := c.d.def_ 4 (d := dLStrange) rfl
  refine ⟨fd, ?_, F, F.kp⟩
  obtain ⟨fdLOneOf, GLOneOf, FLOneOf, kpLOneOf⟩ := ok_LOneOf (w := w) (base := base) X Gm c
  have bLOneOf : Binds K fdLOneOf ["_law_state_here", "_law_items"] [] := FLOneOf.bindsN (ps := ["_law_state_here", "_law_items"]) fun _ _ _ _ _ _ us hl => match us, hl with | [_, _], _ => rfl
  have mg__law_one_of := He.glo_ok X Gm (c.d.fact 3 (f := .glo "_law_one_of") rfl)
  have TX := (txt c).1
  have SM := (txt c).2
  have EK : ∀ x ∈ eks, He.EkC K eks x := fun x hx => He.ek_ok (List.all_eq_true.mp c.k x hx)
  refine fn_ok (k := 2) F scLStrange ?len (fun cdv A outer s H E hr => ⟨_, PSs.nox (pss_cons (ps_set (i := 1) scLStrange.nd rfl (by first | exact Or.inl rfl | exact Or.inr rfl) (pe_lst (pa_cons pe_non (pa_cons pe_bl (pa_cons pe_bl (pa_cons (pe_un un_neg pe_int) (pa_cons pe_str (pa_cons pe_str (pa_cons (pe_tup pa_nil) (pa_cons (pe_tup (pa_cons pe_int pa_nil)) (pa_cons (pe_lst (pa_cons pe_int pa_nil)) (pa_cons pe_dnewK pa_nil))))))))))))
  (pss_one (ps_ret (pe_call GLOneOf (hr.mono (by decide)) (by rfl) mg__law_one_of kpLOneOf bLOneOf .nil pass0 (pa_cons (pv 0) (pa_cons (pe_op op_cat (pv 1) (pe_lst (pa_cons (pe_disp (pps_cons pe_int pe_int pps_nil) rfl rfl (by simp) (by decide)) (pa_cons (pe_tup (pa_cons (pe_tup (pa_cons pe_bl pa_nil)) pa_nil)) (pa_cons (pe_lst (pa_cons (pe_lst pa_nil) (pa_cons (pe_tup (pa_cons pe_non (pa_cons pe_str pa_nil))) pa_nil))) pa_nil))))) pa_nil)))))), ?_⟩)
  case len => rintro m Ps O ⟨st, _, rfl, _⟩; rfl
  rintro m Ps O ⟨st, tk, rfl, rfl⟩
  refine bl_set (ev_ls (Ps := (odds.map (dq K)).take 10) (ea_cons (ev_non (K := K)).q (ea_cons (ev_bl (K := K)).q (ea_cons (ev_bl (K := K)).q (ea_cons (ev_neg (K := K) ev_int).q (ea_cons (ev_str (K := K)).q (ea_cons (ev_str (K := K)).q (ea_cons (ev_tup (K := K) (ds := []) ea_nil (by decide)).q (ea_cons (ev_tup (K := K) (ds := [.int 0]) (ea_cons ev_int ea_nil) (by decide)).q
    (ea_cons (ev_lst (K := K) (ds := [.int 0]) (ea_cons ev_int ea_nil) (by decide)).q (ea_cons (ev_dict0 (K := K)) ea_nil)))))))))) (by show 10 ≤ 100000; decide)) ?_
  dsimp only [List.set]
  exact bl_ret (ev_call (F := FOneOf K) (ea_cons (ev_var rfl) (ea_cons (ev_lsCat (Ps := (odds.map (dq K)).take 10) (Qs := (odds.map (dq K)).drop 10) (ev_var rfl) (ev_ls (ea_cons (ev_dictI (K := K)) (ea_cons (ev_tup (K := K) (ds := [.tuple [.bool true]]) (ea_cons (ev_tup (K := K) (ds := [.bool true]) (ea_cons ev_bl ea_nil) (by decide)) ea_nil) (by decide)).q
    (ea_cons (ev_lst (K := K) (ds := [.list [], .tuple [.none, .str "a"]]) (ea_cons (ev_lst (K := K) (ds := []) ea_nil (by decide)) (ea_cons (ev_tup (K := K) (ds := [.none, .str "a"]) (ea_cons ev_non (ea_cons ev_str ea_nil)) (by decide)) ea_nil)) (by decide)).q ea_nil))) (by show 3 ≤ 100000; decide)) (by show 10 + 3 ≤ 100000; decide)) ea_nil)) ⟨st, odds.map (dq K), tk, by show 0 < 13; decide, by show 13 < 1000; decide, rfl, rfl⟩) rfl

theorem ok_LPlaced {w : World} {K : PySem.W.Frag} {h : Heap} {mg : Str → Option Value} {base : Heap} (X : K.In h) (Gm : h.Ns mainGlobals mg) (c : Says K) : ∃ fd, FnOk PP w K mg base CX0 1 (He.ga K "_law_placed") fd ["_law_thing"] (spF (FPlaced K)) ∧ FunD K dLPlaced.name dLPlaced.qual dLPlaced.params dLPlaced.body dLPlaced.scope (He.DefD.dvs K dLPlaced) (He.DefD.kws K dLPlaced) (He.fAd K dLPlaced.at_) fd ∧ PySem.W.keepIn K (.ref (He.ga K "_law_placed")) = true := by
  obtain ⟨fd, F⟩ := c.d.def_ 5 (d := dLPlaced) rfl
  refine ⟨fd, ?_, F, F.kp⟩
  have mg_BadCount := He.glo_ok X Gm (c.d.fact 19 (f := .glo "BadCount") rfl)
  have mg_BadDeed := He.glo_ok X Gm (c.d.fact 44 (f := .glo "BadDeed") rfl)
  have mg_BadDiary := He.glo_ok X Gm (c.d.fact 38 (f := .glo "BadDiary") rfl)
  have mg_BadExchange := He.glo_ok X Gm (c.d.fact 31 (f := .glo "BadExchange") rfl)
  have mg_BadGap := He.glo_ok X Gm (c.d.fact 29 (f := .glo "BadGap") rfl)
  have mg_BadIncome := He.glo_ok X Gm (c.d.fact 21 (f := .glo "BadIncome") rfl)
  have mg_BadIncomes := He.glo_ok X Gm (c.d.fact 25 (f := .glo "BadIncomes") rfl)
  have mg_BadLink := He.glo_ok X Gm (c.d.fact 24 (f := .glo "BadLink") rfl)
  have mg_BadLot := He.glo_ok X Gm (c.d.fact 28 (f := .glo "BadLot") rfl)
  have mg_BadName := He.glo_ok X Gm (c.d.fact 39 (f := .glo "BadName") rfl)
  have mg_BadOrder := He.glo_ok X Gm (c.d.fact 18 (f := .glo "BadOrder") rfl)
  have mg_BadPair := He.glo_ok X Gm (c.d.fact 33 (f := .glo "BadPair") rfl)
  have mg_BadPapers := He.glo_ok X Gm (c.d.fact 26 (f := .glo "BadPapers") rfl)
  have mg_BadPlace := He.glo_ok X Gm (c.d.fact 30 (f := .glo "BadPlace") rfl)
  have mg_BadPrice := He.glo_ok X Gm (c.d.fact 17 (f := .glo "BadPrice") rfl)
  have mg_BadRecipes := He.glo_ok X Gm (c.d.fact 36 (f := .glo "BadRecipes") rfl)
  have mg_BadRow := He.glo_ok X Gm (c.d.fact 40 (f := .glo "BadRow") rfl)
  have mg_BadRule := He.glo_ok X Gm (c.d.fact 27 (f := .glo "BadRule") rfl)
  have mg_BadSeats := He.glo_ok X Gm (c.d.fact 34 (f := .glo "BadSeats") rfl)
  have mg_BadShare := He.glo_ok X Gm (c.d.fact 12 (f := .glo "BadShare") rfl)
  have mg_BadTable := He.glo_ok X Gm (c.d.fact 22 (f := .glo "BadTable") rfl)
  have mg_BadText := He.glo_ok X Gm (c.d.fact 45 (f := .glo "BadText") rfl)
  have mg_BadValue := He.glo_ok X Gm (c.d.fact 37 (f := .glo "BadValue") rfl)
  have mg_BadWhole := He.glo_ok X Gm (c.d.fact 23 (f := .glo "BadWhole") rfl)
  have mg_BadWish := He.glo_ok X Gm (c.d.fact 35 (f := .glo "BadWish") rfl)
  have mg_BadWorld := He.glo_ok X Gm (c.d.fact 13 (f := .glo "BadWorld") rfl)
  have mg_NoAnswer := He.glo_ok X Gm (c.d.fact 16 (f := .glo "NoAnswer") rfl)
  have mg_NoAsk := He.glo_ok X Gm (c.d.fact 15 (f := .glo "NoAsk") rfl)
  have mg_NoRoom := He.glo_ok X Gm (c.d.fact 32 (f := .glo "NoRoom") rfl)
  have mg_NoSafe := He.glo_ok X Gm (c.d.fact 43 (f := .glo "NoSafe") rfl)
  have mg_NoStanding := He.glo_ok X Gm (c.d.fact 14 (f := .glo "NoStanding") rfl)
  have mg_NoTurn := He.glo_ok X Gm (c.d.fact 41 (f := .glo "NoTurn") rfl)
  have mg_Owing := He.glo_ok X Gm (c.d.fact 42 (f := .glo "Owing") rfl)
  have mg_TooMany := He.glo_ok X Gm (c.d.fact 20 (f := .glo "TooMany") rfl)
  have mg_super := He.free_ok X Gm (c.d.fact 52 (f := .free "super") rfl)
  have TX := (txt c).1
  have SM := (txt c).2
  have EK : ∀ x ∈ eks, He.EkC K eks x := fun x hx => He.ek_ok (List.all_eq_true.mp c.k x hx)
  have UBadShare := c.err 1 (x := "BadShare") rfl
  have UBadWorld := c.err 2 (x := "BadWorld") rfl
  have UNoStanding := c.err 3 (x := "NoStanding") rfl
  have UNoAsk := c.err 4 (x := "NoAsk") rfl
  have UNoAnswer := c.err 5 (x := "NoAnswer") rfl
  have UBadPrice := c.err 6 (x := "BadPrice") rfl
  have UBadOrder := c.err 7 (x := "BadOrder") rfl
  have UBadCount := c.err 8 (x := "BadCount") rfl
  have UTooMany := c.err 9 (x := "TooMany") rfl
  have UBadIncome := c.err 10 (x := "BadIncome") rfl
  have UBadTable := c.err 11 (x := "BadTable") rfl
  have UBadWhole := c.err 12 (x := "BadWhole") rfl
  have UBadLink := c.err 13 (x := "BadLink") rfl
  have UBadIncomes := c.err 14 (x := "BadIncomes") rfl
  have UBadPapers := c.err 15 (x := "BadPapers") rfl
  have UBadRule := c.err 16 (x := "BadRule") rfl
  have UBadLot := c.err 17 (x := "BadLot") rfl
  have UBadGap := c.err 18 (x := "BadGap") rfl
  have UBadPlace := c.err 19 (x := "BadPlace") rfl
  have UBadExchange := c.err 20 (x := "BadExchange") rfl
  have UNoRoom := c.err 21 (x := "NoRoom") rfl
  have UBadPair := c.err 22 (x := "BadPair") rfl
  have UBadSeats := c.err 23 (x := "BadSeats") rfl
  have UBadWish := c.err 24 (x := "BadWish") rfl
  have UBadRecipes := c.err 25 (x := "BadRecipes") rfl
  have UBadValue := c.err 26 (x := "BadValue") rfl
  have UBadDiary := c.err 27 (x := "BadDiary") rfl
  have UBadName := c.err 28 (x := "BadName") rfl
  have UBadRow := c.err 29 (x := "BadRow") rfl
  have UNoTurn := c.err 30 (x := "NoTurn") rfl
  have UOwing := c.err 31 (x := "Owing") rfl
  have UNoSafe := c.err 32 (x := "NoSafe") rfl
  have UBadDeed := c.err 33 (x := "BadDeed") rfl
  have UBadText := c.err 34 (x := "BadText") rfl
  refine fn_ok (k := 0) F scLPlaced ?len (fun cdv A outer s H E hr => ⟨_, PSs.nox (pss_cons (ps_set (i := 1) scLPlaced.nd rfl (by first | exact Or.inl rfl | exact Or.inr rfl) (pe_lst (pa_cons (pe_err TX UBadShare mg_BadShare mg_super hr (by rfl) (pa_cons (pv 0) pa_nil)) (pa_cons (pe_err TX UBadWorld mg_BadWorld mg_super hr (by rfl) (pa_cons (pv 0) pa_nil)) (pa_cons (pe_err TX UNoStanding mg_NoStanding mg_super hr (by rfl) (pa_cons (pv 0) pa_nil)) (pa_cons (pe_err TX UNoAsk mg_NoAsk mg_super hr (by rfl) (pa_cons (pv 0) pa_nil)) (pa_cons (pe_err TX UNoAnswer mg_NoAnswer mg_super hr (by rfl) (pa_cons (pv 0) pa_nil)) (pa_cons (pe_err TX UBadPrice mg_BadPrice mg_super hr (by rfl) (pa_cons (pv 0) pa_nil)) pa_nil))))))))
  (pss_cons (ps_set (i := 1) scLPlaced.nd rfl (by first | exact Or.inl rfl | exact Or.inr rfl) (pe_op op_cat (pv 1) (pe_lst (pa_cons (pe_err TX UBadOrder mg_BadOrder mg_super hr (by rfl) (pa_cons (pv 0) pa_nil)) (pa_cons (pe_err TX UBadCount mg_BadCount mg_super hr (by rfl) (pa_cons (pv 0) pa_nil)) (pa_cons (pe_err TX UTooMany mg_TooMany mg_super hr (by rfl) (pa_cons (pv 0) pa_nil)) (pa_cons (pe_err TX UBadIncome mg_BadIncome mg_super hr (by rfl) (pa_cons (pv 0) pa_nil)) (pa_cons (pe_err TX UBadTable mg_BadTable mg_super hr (by rfl) (pa_cons (pv 0) pa_nil)) pa_nil))))))))
  (pss_cons (ps_set (i := 1) scLPlaced.nd rfl (by first | exact Or.inl rfl | exact Or.inr rfl) (pe_op op_cat (pv 1) (pe_lst (pa_cons (pe_err TX UBadWhole mg_BadWhole mg_super hr (by rfl) (pa_cons (pv 0) pa_nil)) (pa_cons (pe_err TX UBadLink mg_BadLink mg_super hr (by rfl) (pa_cons (pv 0) pa_nil)) (pa_cons (pe_err TX UBadIncomes mg_BadIncomes mg_super hr (by rfl) (pa_cons (pv 0) pa_nil)) (pa_cons (pe_err TX UBadPapers mg_BadPapers mg_super hr (by rfl) (pa_cons (pv 0) pa_nil)) (pa_cons (pe_err TX UBadRule mg_BadRule mg_super hr (by rfl) (pa_cons (pv 0) pa_nil)) pa_nil))))))))
  (pss_cons (ps_set (i := 1) scLPlaced.nd rfl (by first | exact Or.inl rfl | exact Or.inr rfl) (pe_op op_cat (pv 1) (pe_lst (pa_cons (pe_err TX UBadLot mg_BadLot mg_super hr (by rfl) (pa_cons (pv 0) pa_nil)) (pa_cons (pe_err TX UBadGap mg_BadGap mg_super hr (by rfl) (pa_cons (pv 0) pa_nil)) (pa_cons (pe_err TX UBadPlace mg_BadPlace mg_super hr (by rfl) (pa_cons (pv 0) pa_nil)) (pa_cons (pe_err TX UBadExchange mg_BadExchange mg_super hr (by rfl) (pa_cons (pv 0) pa_nil)) (pa_cons (pe_err TX UNoRoom mg_NoRoom mg_super hr (by rfl) (pa_cons (pv 0) pa_nil)) pa_nil))))))))
  (pss_cons (ps_set (i := 1) scLPlaced.nd rfl (by first | exact Or.inl rfl | exact Or.inr rfl) (pe_op op_cat (pv 1) (pe_lst (pa_cons (pe_err TX UBadPair mg_BadPair mg_super hr (by rfl) (pa_cons (pv 0) pa_nil)) (pa_cons (pe_err TX UBadSeats mg_BadSeats mg_super hr (by rfl) (pa_cons (pv 0) pa_nil)) (pa_cons (pe_err TX UBadWish mg_BadWish mg_super hr (by rfl) (pa_cons (pv 0) pa_nil)) (pa_cons (pe_err TX UBadRecipes mg_BadRecipes mg_super hr (by rfl) (pa_cons (pv 0) pa_nil)) (pa_cons (pe_err TX UBadValue mg_BadValue mg_super hr (by rfl) (pa_cons (pv 0) pa_nil)) pa_nil))))))))
  (pss_cons (ps_set (i := 1) scLPlaced.nd rfl (by first | exact Or.inl rfl | exact Or.inr rfl) (pe_op op_cat (pv 1) (pe_lst (pa_cons (pe_err TX UBadDiary mg_BadDiary mg_super hr (by rfl) (pa_cons (pv 0) pa_nil)) (pa_cons (pe_err TX UBadName mg_BadName mg_super hr (by rfl) (pa_cons (pv 0) pa_nil)) (pa_cons (pe_err TX UBadRow mg_BadRow mg_super hr (by rfl) (pa_cons (pv 0) pa_nil)) (pa_cons (pe_err TX UNoTurn mg_NoTurn mg_super hr (by rfl) (pa_cons (pv 0) pa_nil)) (pa_cons (pe_err TX UOwing mg_Owing mg_super hr (by rfl) (pa_cons (pv 0) pa_nil)) pa_nil))))))))
  (pss_cons (ps_set (i := 1) scLPlaced.nd rfl (by first | exact Or.inl rfl | exact Or.inr rfl) (pe_op op_cat (pv 1) (pe_lst (pa_cons (pe_err TX UNoSafe mg_NoSafe mg_super hr (by rfl) (pa_cons (pv 0) pa_nil)) (pa_cons (pe_err TX UBadDeed mg_BadDeed mg_super hr (by rfl) (pa_cons (pv 0) pa_nil)) (pa_cons (pe_err TX UBadText mg_BadText mg_super hr (by rfl) (pa_cons (pv 0) pa_nil)) pa_nil))))))
  (pss_one (ps_ret (pv 1)))))))))), ?_⟩)
  case len => rintro m Ps O ⟨P, rfl, _⟩; rfl
  rintro m Ps O ⟨P, rfl, rfl⟩
  refine bl_set (P := ls ((errPs K P).take 6)) ((ev_ls (Ps := ((errPs K P).drop 0).take 6) (ea_cons (ev_err (ea_cons (ev_var rfl) ea_nil)) (ea_cons (ev_err (ea_cons (ev_var rfl) ea_nil)) (ea_cons (ev_err (ea_cons (ev_var rfl) ea_nil)) (ea_cons (ev_err (ea_cons (ev_var rfl) ea_nil)) (ea_cons (ev_err (ea_cons (ev_var rfl) ea_nil)) (ea_cons (ev_err (ea_cons (ev_var rfl) ea_nil)) ea_nil)))))) (by show 6 ≤ 100000; decide)).to fun v G p => p) ?_
  try dsimp only [List.set]
  refine bl_set (P := ls ((errPs K P).take 11)) ((ev_lsCat (Ps := (errPs K P).take 6) (Qs := ((errPs K P).drop 6).take 5) (ev_var rfl) (ev_ls (Ps := ((errPs K P).drop 6).take 5) (ea_cons (ev_err (ea_cons (ev_var rfl) ea_nil)) (ea_cons (ev_err (ea_cons (ev_var rfl) ea_nil)) (ea_cons (ev_err (ea_cons (ev_var rfl) ea_nil)) (ea_cons (ev_err (ea_cons (ev_var rfl) ea_nil)) (ea_cons (ev_err (ea_cons (ev_var rfl) ea_nil)) ea_nil))))) (by show 5 ≤ 100000; decide)) (by show 6 + 5 ≤ 100000; decide)).to fun v G p => p) ?_
  try dsimp only [List.set]
  refine bl_set (P := ls ((errPs K P).take 16)) ((ev_lsCat (Ps := (errPs K P).take 11) (Qs := ((errPs K P).drop 11).take 5) (ev_var rfl) (ev_ls (Ps := ((errPs K P).drop 11).take 5) (ea_cons (ev_err (ea_cons (ev_var rfl) ea_nil)) (ea_cons (ev_err (ea_cons (ev_var rfl) ea_nil)) (ea_cons (ev_err (ea_cons (ev_var rfl) ea_nil)) (ea_cons (ev_err (ea_cons (ev_var rfl) ea_nil)) (ea_cons (ev_err (ea_cons (ev_var rfl) ea_nil)) ea_nil))))) (by show 5 ≤ 100000; decide)) (by show 11 + 5 ≤ 100000; decide)).to fun v G p => p) ?_
  try dsimp only [List.set]
  refine bl_set (P := ls ((errPs K P).take 21)) ((ev_lsCat (Ps := (errPs K P).take 16) (Qs := ((errPs K P).drop 16).take 5) (ev_var rfl) (ev_ls (Ps := ((errPs K P).drop 16).take 5) (ea_cons (ev_err (ea_cons (ev_var rfl) ea_nil)) (ea_cons (ev_err (ea_cons (ev_var rfl) ea_nil)) (ea_cons (ev_err (ea_cons (ev_var rfl) ea_nil)) (ea_cons (ev_err (ea_cons (ev_var rfl) ea_nil)) (ea_cons (ev_err (ea_cons (ev_var rfl) ea_nil)) ea_nil))))) (by show 5 ≤ 100000; decide)) (by show 16 + 5 ≤ 100000; decide)).to fun v G p => p) ?_
  try dsimp only [List.set]
  refine bl_set (P := ls ((errPs K P).take 26)) ((ev_lsCat (Ps := (errPs K P).take 21) (Qs := ((errPs K P).drop 21).take 5) (ev_var rfl) (ev_ls (Ps := ((errPs K P).drop 21).take 5) (ea_cons (ev_err (ea_cons (ev_var rfl) ea_nil)) (ea_cons (ev_err (ea_cons (ev_var rfl) ea_nil)) (ea_cons (ev_err (ea_cons (ev_var rfl) ea_nil)) (ea_cons (ev_err (ea_cons (ev_var rfl) ea_nil)) (ea_cons (ev_err (ea_cons (ev_var rfl) ea_nil)) ea_nil))))) (by show 5 ≤ 100000; decide)) (by show 21 + 5 ≤ 100000; decide)).to fun v G p => p) ?_
  try dsimp only [List.set]
  refine bl_set (P := ls ((errPs K P).take 31)) ((ev_lsCat (Ps := (errPs K P).take 26) (Qs := ((errPs K P).drop 26).take 5) (ev_var rfl) (ev_ls (Ps := ((errPs K P).drop 26).take 5) (ea_cons (ev_err (ea_cons (ev_var rfl) ea_nil)) (ea_cons (ev_err (ea_cons (ev_var rfl) ea_nil)) (ea_cons (ev_err (ea_cons (ev_var rfl) ea_nil)) (ea_cons (ev_err (ea_cons (ev_var rfl) ea_nil)) (ea_cons (ev_err (ea_cons (ev_var rfl) ea_nil)) ea_nil))))) (by show 5 ≤ 100000; decide)) (by show 26 + 5 ≤ 100000; decide)).to fun v G p => p) ?_
  try dsimp only [List.set]
  refine bl_set (P := ls ((errPs K P).take 34)) ((ev_lsCat (Ps := (errPs K P).take 31) (Qs := ((errPs K P).drop 31).take 3) (ev_var rfl) (ev_ls (Ps := ((errPs K P).drop 31).take 3) (ea_cons (ev_err (ea_cons (ev_var rfl) ea_nil)) (ea_cons (ev_err (ea_cons (ev_var rfl) ea_nil)) (ea_cons (ev_err (ea_cons (ev_var rfl) ea_nil)) ea_nil))) (by show 3 ≤ 100000; decide)) (by show 31 + 3 ≤ 100000; decide)).to fun v G p => p) ?_
  try dsimp only [List.set]
  exact bl_ret (ev_var rfl) rfl

theorem ok_LNamed {w : World} {K : PySem.W.Frag} {h : Heap} {mg : Str → Option Value} {base : Heap} (X : K.In h) (Gm : h.Ns mainGlobals mg) (c : Says K) : ∃ fd, FnOk PP w K mg base CX0 1 (He.ga K "_law_named") fd ["_law_thing"] (spF (FPlaced K)) ∧ FunD K dLNamed.name dLNamed.qual dLNamed.params dLNamed.body dLNamed.scope (He.DefD.dvs K dLNamed) (He.DefD.kws K dLNamed) (He.fAd K dLNamed.at_) fd ∧ PySem.W.keepIn K (.ref (He.ga K "_law_named")) = true := by
  obtain ⟨fd, F⟩ := c.d.def_ 6 (d := dLNamed) rfl
  refine ⟨fd, ?_, F, F.kp⟩
  have mg_BadCount := He.glo_ok X Gm (c.d.fact 19 (f := .glo "BadCount") rfl)
  have mg_BadDeed := He.glo_ok X Gm (c.d.fact 44 (f := .glo "BadDeed") rfl)
  have mg_BadDiary := He.glo_ok X Gm (c.d.fact 38 (f := .glo "BadDiary") rfl)
  have mg_BadExchange := He.glo_ok X Gm (c.d.fact 31 (f := .glo "BadExchange") rfl)
  have mg_BadGap := He.glo_ok X Gm (c.d.fact 29 (f := .glo "BadGap") rfl)
  have mg_BadIncome := He.glo_ok X Gm (c.d.fact 21 (f := .glo "BadIncome") rfl)
  have mg_BadIncomes := He.glo_ok X Gm (c.d.fact 25 (f := .glo "BadIncomes") rfl)
  have mg_BadLink := He.glo_ok X Gm (c.d.fact 24 (f := .glo "BadLink") rfl)
  have mg_BadLot := He.glo_ok X Gm (c.d.fact 28 (f := .glo "BadLot") rfl)
  have mg_BadName := He.glo_ok X Gm (c.d.fact 39 (f := .glo "BadName") rfl)
  have mg_BadOrder := He.glo_ok X Gm (c.d.fact 18 (f := .glo "BadOrder") rfl)
  have mg_BadPair := He.glo_ok X Gm (c.d.fact 33 (f := .glo "BadPair") rfl)
  have mg_BadPapers := He.glo_ok X Gm (c.d.fact 26 (f := .glo "BadPapers") rfl)
  have mg_BadPlace := He.glo_ok X Gm (c.d.fact 30 (f := .glo "BadPlace") rfl)
  have mg_BadPrice := He.glo_ok X Gm (c.d.fact 17 (f := .glo "BadPrice") rfl)
  have mg_BadRecipes := He.glo_ok X Gm (c.d.fact 36 (f := .glo "BadRecipes") rfl)
  have mg_BadRow := He.glo_ok X Gm (c.d.fact 40 (f := .glo "BadRow") rfl)
  have mg_BadRule := He.glo_ok X Gm (c.d.fact 27 (f := .glo "BadRule") rfl)
  have mg_BadSeats := He.glo_ok X Gm (c.d.fact 34 (f := .glo "BadSeats") rfl)
  have mg_BadShare := He.glo_ok X Gm (c.d.fact 12 (f := .glo "BadShare") rfl)
  have mg_BadTable := He.glo_ok X Gm (c.d.fact 22 (f := .glo "BadTable") rfl)
  have mg_BadText := He.glo_ok X Gm (c.d.fact 45 (f := .glo "BadText") rfl)
  have mg_BadValue := He.glo_ok X Gm (c.d.fact 37 (f := .glo "BadValue") rfl)
  have mg_BadWhole := He.glo_ok X Gm (c.d.fact 23 (f := .glo "BadWhole") rfl)
  have mg_BadWish := He.glo_ok X Gm (c.d.fact 35 (f := .glo "BadWish") rfl)
  have mg_BadWorld := He.glo_ok X Gm (c.d.fact 13 (f := .glo "BadWorld") rfl)
  have mg_NoAnswer := He.glo_ok X Gm (c.d.fact 16 (f := .glo "NoAnswer") rfl)
  have mg_NoAsk := He.glo_ok X Gm (c.d.fact 15 (f := .glo "NoAsk") rfl)
  have mg_NoRoom := He.glo_ok X Gm (c.d.fact 32 (f := .glo "NoRoom") rfl)
  have mg_NoSafe := He.glo_ok X Gm (c.d.fact 43 (f := .glo "NoSafe") rfl)
  have mg_NoStanding := He.glo_ok X Gm (c.d.fact 14 (f := .glo "NoStanding") rfl)
  have mg_NoTurn := He.glo_ok X Gm (c.d.fact 41 (f := .glo "NoTurn") rfl)
  have mg_Owing := He.glo_ok X Gm (c.d.fact 42 (f := .glo "Owing") rfl)
  have mg_TooMany := He.glo_ok X Gm (c.d.fact 20 (f := .glo "TooMany") rfl)
  have mg_super := He.free_ok X Gm (c.d.fact 52 (f := .free "super") rfl)
  have TX := (txt c).1
  have SM := (txt c).2
  have EK : ∀ x ∈ eks, He.EkC K eks x := fun x hx => He.ek_ok (List.all_eq_true.mp c.k x hx)
  have UBadShare := c.err 1 (x := "BadShare") rfl
  have UBadWorld := c.err 2 (x := "BadWorld") rfl
  have UNoStanding := c.err 3 (x := "NoStanding") rfl
  have UNoAsk := c.err 4 (x := "NoAsk") rfl
  have UNoAnswer := c.err 5 (x := "NoAnswer") rfl
  have UBadPrice := c.err 6 (x := "BadPrice") rfl
  have UBadOrder := c.err 7 (x := "BadOrder") rfl
  have UBadCount := c.err 8 (x := "BadCount") rfl
  have UTooMany := c.err 9 (x := "TooMany") rfl
  have UBadIncome := c.err 10 (x := "BadIncome") rfl
  have UBadTable := c.err 11 (x := "BadTable") rfl
  have UBadWhole := c.err 12 (x := "BadWhole") rfl
  have UBadLink := c.err 13 (x := "BadLink") rfl
  have UBadIncomes := c.err 14 (x := "BadIncomes") rfl
  have UBadPapers := c.err 15 (x := "BadPapers") rfl
  have UBadRule := c.err 16 (x := "BadRule") rfl
  have UBadLot := c.err 17 (x := "BadLot") rfl
  have UBadGap := c.err 18 (x := "BadGap") rfl
  have UBadPlace := c.err 19 (x := "BadPlace") rfl
  have UBadExchange := c.err 20 (x := "BadExchange") rfl
  have UNoRoom := c.err 21 (x := "NoRoom") rfl
  have UBadPair := c.err 22 (x := "BadPair") rfl
  have UBadSeats := c.err 23 (x := "BadSeats") rfl
  have UBadWish := c.err 24 (x := "BadWish") rfl
  have UBadRecipes := c.err 25 (x := "BadRecipes") rfl
  have UBadValue := c.err 26 (x := "BadValue") rfl
  have UBadDiary := c.err 27 (x := "BadDiary") rfl
  have UBadName := c.err 28 (x := "BadName") rfl
  have UBadRow := c.err 29 (x := "BadRow") rfl
  have UNoTurn := c.err 30 (x := "NoTurn") rfl
  have UOwing := c.err 31 (x := "Owing") rfl
  have UNoSafe := c.err 32 (x := "NoSafe") rfl
  have UBadDeed := c.err 33 (x := "BadDeed") rfl
  have UBadText := c.err 34 (x := "BadText") rfl
  refine fn_ok (k := 0) F scLNamed ?len (fun cdv A outer s H E hr => ⟨_, PSs.nox (pss_cons (ps_set (i := 1) scLNamed.nd rfl (by first | exact Or.inl rfl | exact Or.inr rfl) (pe_lst (pa_cons (pe_errK TX UBadShare mg_BadShare mg_super hr (by rfl) (pk_cons (pv 0) pk_nil)) (pa_cons (pe_errK TX UBadWorld mg_BadWorld mg_super hr (by rfl) (pk_cons (pv 0) pk_nil)) (pa_cons (pe_errK TX UNoStanding mg_NoStanding mg_super hr (by rfl) (pk_cons (pv 0) pk_nil)) (pa_cons (pe_errK TX UNoAsk mg_NoAsk mg_super hr (by rfl) (pk_cons (pv 0) pk_nil)) (pa_cons (pe_errK TX UNoAnswer mg_NoAnswer mg_super hr (by rfl) (pk_cons (pv 0) pk_nil)) (pa_cons (pe_errK TX UBadPrice mg_BadPrice mg_super hr (by rfl) (pk_cons (pv 0) pk_nil)) pa_nil))))))))
  (pss_cons (ps_set (i := 1) scLNamed.nd rfl (by first | exact Or.inl rfl | exact Or.inr rfl) (pe_op op_cat (pv 1) (pe_lst (pa_cons (pe_errK TX UBadOrder mg_BadOrder mg_super hr (by rfl) (pk_cons (pv 0) pk_nil)) (pa_cons (pe_errK TX UBadCount mg_BadCount mg_super hr (by rfl) (pk_cons (pv 0) pk_nil)) (pa_cons (pe_errK TX UTooMany mg_TooMany mg_super hr (by rfl) (pk_cons (pv 0) pk_nil)) (pa_cons (pe_errK TX UBadIncome mg_BadIncome mg_super hr (by rfl) (pk_cons (pv 0) pk_nil)) (pa_cons (pe_errK TX UBadTable mg_BadTable mg_super hr (by rfl) (pk_cons (pv 0) pk_nil)) pa_nil))))))))
  (pss_cons (ps_set (i := 1) scLNamed.nd rfl (by first | exact Or.inl rfl | exact Or.inr rfl) (pe_op op_cat (pv 1) (pe_lst (pa_cons (pe_errK TX UBadWhole mg_BadWhole mg_super hr (by rfl) (pk_cons (pv 0) pk_nil)) (pa_cons (pe_errK TX UBadLink mg_BadLink mg_super hr (by rfl) (pk_cons (pv 0) pk_nil)) (pa_cons (pe_errK TX UBadIncomes mg_BadIncomes mg_super hr (by rfl) (pk_cons (pv 0) pk_nil)) (pa_cons (pe_errK TX UBadPapers mg_BadPapers mg_super hr (by rfl) (pk_cons (pv 0) pk_nil)) (pa_cons (pe_errK TX UBadRule mg_BadRule mg_super hr (by rfl) (pk_cons (pv 0) pk_nil)) pa_nil))))))))
  (pss_cons (ps_set (i := 1) scLNamed.nd rfl (by first | exact Or.inl rfl | exact Or.inr rfl) (pe_op op_cat (pv 1) (pe_lst (pa_cons (pe_errK TX UBadLot mg_BadLot mg_super hr (by rfl) (pk_cons (pv 0) pk_nil)) (pa_cons (pe_errK TX UBadGap mg_BadGap mg_super hr (by rfl) (pk_cons (pv 0) pk_nil)) (pa_cons (pe_errK TX UBadPlace mg_BadPlace mg_super hr (by rfl) (pk_cons (pv 0) pk_nil)) (pa_cons (pe_errK TX UBadExchange mg_BadExchange mg_super hr (by rfl) (pk_cons (pv 0) pk_nil)) (pa_cons (pe_errK TX UNoRoom mg_NoRoom mg_super hr (by rfl) (pk_cons (pv 0) pk_nil)) pa_nil))))))))
  (pss_cons (ps_set (i := 1) scLNamed.nd rfl (by first | exact Or.inl rfl | exact Or.inr rfl) (pe_op op_cat (pv 1) (pe_lst (pa_cons (pe_errK TX UBadPair mg_BadPair mg_super hr (by rfl) (pk_cons (pv 0) pk_nil)) (pa_cons (pe_errK TX UBadSeats mg_BadSeats mg_super hr (by rfl) (pk_cons (pv 0) pk_nil)) (pa_cons (pe_errK TX UBadWish mg_BadWish mg_super hr (by rfl) (pk_cons (pv 0) pk_nil)) (pa_cons (pe_errK TX UBadRecipes mg_BadRecipes mg_super hr (by rfl) (pk_cons (pv 0) pk_nil)) (pa_cons (pe_errK TX UBadValue mg_BadValue mg_super hr (by rfl) (pk_cons (pv 0) pk_nil)) pa_nil))))))))
  (pss_cons (ps_set (i := 1) scLNamed.nd rfl (by first | exact Or.inl rfl | exact Or.inr rfl) (pe_op op_cat (pv 1) (pe_lst (pa_cons (pe_errK TX UBadDiary mg_BadDiary mg_super hr (by rfl) (pk_cons (pv 0) pk_nil)) (pa_cons (pe_errK TX UBadName mg_BadName mg_super hr (by rfl) (pk_cons (pv 0) pk_nil)) (pa_cons (pe_errK TX UBadRow mg_BadRow mg_super hr (by rfl) (pk_cons (pv 0) pk_nil)) (pa_cons (pe_errK TX UNoTurn mg_NoTurn mg_super hr (by rfl) (pk_cons (pv 0) pk_nil)) (pa_cons (pe_errK TX UOwing mg_Owing mg_super hr (by rfl) (pk_cons (pv 0) pk_nil)) pa_nil))))))))
  (pss_cons (ps_set (i := 1) scLNamed.nd rfl (by first | exact Or.inl rfl | exact Or.inr rfl) (pe_op op_cat (pv 1) (pe_lst (pa_cons (pe_errK TX UNoSafe mg_NoSafe mg_super hr (by rfl) (pk_cons (pv 0) pk_nil)) (pa_cons (pe_errK TX UBadDeed mg_BadDeed mg_super hr (by rfl) (pk_cons (pv 0) pk_nil)) (pa_cons (pe_errK TX UBadText mg_BadText mg_super hr (by rfl) (pk_cons (pv 0) pk_nil)) pa_nil))))))
  (pss_one (ps_ret (pv 1)))))))))), ?_⟩)
  case len => rintro m Ps O ⟨P, rfl, _⟩; rfl
  rintro m Ps O ⟨P, rfl, rfl⟩
  refine bl_set (P := ls ((errPs K P).take 6)) ((ev_ls (Ps := ((errPs K P).drop 0).take 6) (ea_cons (ev_err (ea_cons (ev_var rfl) ea_nil)) (ea_cons (ev_err (ea_cons (ev_var rfl) ea_nil)) (ea_cons (ev_err (ea_cons (ev_var rfl) ea_nil)) (ea_cons (ev_err (ea_cons (ev_var rfl) ea_nil)) (ea_cons (ev_err (ea_cons (ev_var rfl) ea_nil)) (ea_cons (ev_err (ea_cons (ev_var rfl) ea_nil)) ea_nil)))))) (by show 6 ≤ 100000; decide)).to fun v G p => p) ?_
  try dsimp only [List.set]
  refine bl_set (P := ls ((errPs K P).take 11)) ((ev_lsCat (Ps := (errPs K P).take 6) (Qs := ((errPs K P).drop 6).take 5) (ev_var rfl) (ev_ls (Ps := ((errPs K P).drop 6).take 5) (ea_cons (ev_err (ea_cons (ev_var rfl) ea_nil)) (ea_cons (ev_err (ea_cons (ev_var rfl) ea_nil)) (ea_cons (ev_err (ea_cons (ev_var rfl) ea_nil)) (ea_cons (ev_err (ea_cons (ev_var rfl) ea_nil)) (ea_cons (ev_err (ea_cons (ev_var rfl) ea_nil)) ea_nil))))) (by show 5 ≤ 100000; decide)) (by show 6 + 5 ≤ 100000; decide)).to fun v G p => p) ?_
  try dsimp only [List.set]
  refine bl_set (P := ls ((errPs K P).take 16)) ((ev_lsCat (Ps := (errPs K P).take 11) (Qs := ((errPs K P).drop 11).take 5) (ev_var rfl) (ev_ls (Ps := ((errPs K P).drop 11).take 5) (ea_cons (ev_err (ea_cons (ev_var rfl) ea_nil)) (ea_cons (ev_err (ea_cons (ev_var rfl) ea_nil)) (ea_cons (ev_err (ea_cons (ev_var rfl) ea_nil)) (ea_cons (ev_err (ea_cons (ev_var rfl) ea_nil)) (ea_cons (ev_err (ea_cons (ev_var rfl) ea_nil)) ea_nil))))) (by show 5 ≤ 100000; decide)) (by show 11 + 5 ≤ 100000; decide)).to fun v G p => p) ?_
  try dsimp only [List.set]
  refine bl_set (P := ls ((errPs K P).take 21)) ((ev_lsCat (Ps := (errPs K P).take 16) (Qs := ((errPs K P).drop 16).take 5) (ev_var rfl) (ev_ls (Ps := ((errPs K P).drop 16).take 5) (ea_cons (ev_err (ea_cons (ev_var rfl) ea_nil)) (ea_cons (ev_err (ea_cons (ev_var rfl) ea_nil)) (ea_cons (ev_err (ea_cons (ev_var rfl) ea_nil)) (ea_cons (ev_err (ea_cons (ev_var rfl) ea_nil)) (ea_cons (ev_err (ea_cons (ev_var rfl) ea_nil)) ea_nil))))) (by show 5 ≤ 100000; decide)) (by show 16 + 5 ≤ 100000; decide)).to fun v G p => p) ?_
  try dsimp only [List.set]
  refine bl_set (P := ls ((errPs K P).take 26)) ((ev_lsCat (Ps := (errPs K P).take 21) (Qs := ((errPs K P).drop 21).take 5) (ev_var rfl) (ev_ls (Ps := ((errPs K P).drop 21).take 5) (ea_cons (ev_err (ea_cons (ev_var rfl) ea_nil)) (ea_cons (ev_err (ea_cons (ev_var rfl) ea_nil)) (ea_cons (ev_err (ea_cons (ev_var rfl) ea_nil)) (ea_cons (ev_err (ea_cons (ev_var rfl) ea_nil)) (ea_cons (ev_err (ea_cons (ev_var rfl) ea_nil)) ea_nil))))) (by show 5 ≤ 100000; decide)) (by show 21 + 5 ≤ 100000; decide)).to fun v G p => p) ?_
  try dsimp only [List.set]
  refine bl_set (P := ls ((errPs K P).take 31)) ((ev_lsCat (Ps := (errPs K P).take 26) (Qs := ((errPs K P).drop 26).take 5) (ev_var rfl) (ev_ls (Ps := ((errPs K P).drop 26).take 5) (ea_cons (ev_err (ea_cons (ev_var rfl) ea_nil)) (ea_cons (ev_err (ea_cons (ev_var rfl) ea_nil)) (ea_cons (ev_err (ea_cons (ev_var rfl) ea_nil)) (ea_cons (ev_err (ea_cons (ev_var rfl) ea_nil)) (ea_cons (ev_err (ea_cons (ev_var rfl) ea_nil)) ea_nil))))) (by show 5 ≤ 100000; decide)) (by show 26 + 5 ≤ 100000; decide)).to fun v G p => p) ?_
  try dsimp only [List.set]
  refine bl_set (P := ls ((errPs K P).take 34)) ((ev_lsCat (Ps := (errPs K P).take 31) (Qs := ((errPs K P).drop 31).take 3) (ev_var rfl) (ev_ls (Ps := ((errPs K P).drop 31).take 3) (ea_cons (ev_err (ea_cons (ev_var rfl) ea_nil)) (ea_cons (ev_err (ea_cons (ev_var rfl) ea_nil)) (ea_cons (ev_err (ea_cons (ev_var rfl) ea_nil)) ea_nil))) (by show 3 ≤ 100000; decide)) (by show 31 + 3 ≤ 100000; decide)).to fun v G p => p) ?_
  try dsimp only [List.set]
  exact bl_ret (ev_var rfl) rfl

theorem ok_LEmpty {w : World} {K : PySem.W.Frag} {h : Heap} {mg : Str → Option Value} {base : Heap} (X : K.In h) (Gm : h.Ns mainGlobals mg) (c : Says K) : ∃ fd, FnOk PP w K mg base CX0 1 (He.ga K "_law_empty") fd [] (spF (FEmpty K)) ∧ FunD K dLEmpty.name dLEmpty.qual dLEmpty.params dLEmpty.body dLEmpty.scope (He.DefD.dvs K dLEmpty) (He.DefD.kws K dLEmpty) (He.fAd K dLEmpty.at_) fd ∧ PySem.W.keepIn K (.ref (He.ga K "_law_empty")) = true := by
  obtain ⟨fd, F⟩ := c.d.def_ 7 (d := dLEmpty) rfl
  refine ⟨fd, ?_, F, F.kp⟩
  have mg_BadCount := He.glo_ok X Gm (c.d.fact 19 (f := .glo "BadCount") rfl)
  have mg_BadDeed := He.glo_ok X Gm (c.d.fact 44 (f := .glo "BadDeed") rfl)
  have mg_BadDiary := He.glo_ok X Gm (c.d.fact 38 (f := .glo "BadDiary") rfl)
  have mg_BadExchange := He.glo_ok X Gm (c.d.fact 31 (f := .glo "BadExchange") rfl)
  have mg_BadGap := He.glo_ok X Gm (c.d.fact 29 (f := .glo "BadGap") rfl)
  have mg_BadIncome := He.glo_ok X Gm (c.d.fact 21 (f := .glo "BadIncome") rfl)
  have mg_BadIncomes := He.glo_ok X Gm (c.d.fact 25 (f := .glo "BadIncomes") rfl)
  have mg_BadLink := He.glo_ok X Gm (c.d.fact 24 (f := .glo "BadLink") rfl)
  have mg_BadLot := He.glo_ok X Gm (c.d.fact 28 (f := .glo "BadLot") rfl)
  have mg_BadName := He.glo_ok X Gm (c.d.fact 39 (f := .glo "BadName") rfl)
  have mg_BadOrder := He.glo_ok X Gm (c.d.fact 18 (f := .glo "BadOrder") rfl)
  have mg_BadPair := He.glo_ok X Gm (c.d.fact 33 (f := .glo "BadPair") rfl)
  have mg_BadPapers := He.glo_ok X Gm (c.d.fact 26 (f := .glo "BadPapers") rfl)
  have mg_BadPlace := He.glo_ok X Gm (c.d.fact 30 (f := .glo "BadPlace") rfl)
  have mg_BadPrice := He.glo_ok X Gm (c.d.fact 17 (f := .glo "BadPrice") rfl)
  have mg_BadRecipes := He.glo_ok X Gm (c.d.fact 36 (f := .glo "BadRecipes") rfl)
  have mg_BadRow := He.glo_ok X Gm (c.d.fact 40 (f := .glo "BadRow") rfl)
  have mg_BadRule := He.glo_ok X Gm (c.d.fact 27 (f := .glo "BadRule") rfl)
  have mg_BadSeats := He.glo_ok X Gm (c.d.fact 34 (f := .glo "BadSeats") rfl)
  have mg_BadShare := He.glo_ok X Gm (c.d.fact 12 (f := .glo "BadShare") rfl)
  have mg_BadTable := He.glo_ok X Gm (c.d.fact 22 (f := .glo "BadTable") rfl)
  have mg_BadText := He.glo_ok X Gm (c.d.fact 45 (f := .glo "BadText") rfl)
  have mg_BadValue := He.glo_ok X Gm (c.d.fact 37 (f := .glo "BadValue") rfl)
  have mg_BadWhole := He.glo_ok X Gm (c.d.fact 23 (f := .glo "BadWhole") rfl)
  have mg_BadWish := He.glo_ok X Gm (c.d.fact 35 (f := .glo "BadWish") rfl)
  have mg_BadWorld := He.glo_ok X Gm (c.d.fact 13 (f := .glo "BadWorld") rfl)
  have mg_NoAnswer := He.glo_ok X Gm (c.d.fact 16 (f := .glo "NoAnswer") rfl)
  have mg_NoAsk := He.glo_ok X Gm (c.d.fact 15 (f := .glo "NoAsk") rfl)
  have mg_NoRoom := He.glo_ok X Gm (c.d.fact 32 (f := .glo "NoRoom") rfl)
  have mg_NoSafe := He.glo_ok X Gm (c.d.fact 43 (f := .glo "NoSafe") rfl)
  have mg_NoStanding := He.glo_ok X Gm (c.d.fact 14 (f := .glo "NoStanding") rfl)
  have mg_NoTurn := He.glo_ok X Gm (c.d.fact 41 (f := .glo "NoTurn") rfl)
  have mg_Owing := He.glo_ok X Gm (c.d.fact 42 (f := .glo "Owing") rfl)
  have mg_TooMany := He.glo_ok X Gm (c.d.fact 20 (f := .glo "TooMany") rfl)
  have mg_super := He.free_ok X Gm (c.d.fact 52 (f := .free "super") rfl)
  have TX := (txt c).1
  have SM := (txt c).2
  have EK : ∀ x ∈ eks, He.EkC K eks x := fun x hx => He.ek_ok (List.all_eq_true.mp c.k x hx)
  have UBadShare := c.err 1 (x := "BadShare") rfl
  have UBadWorld := c.err 2 (x := "BadWorld") rfl
  have UNoStanding := c.err 3 (x := "NoStanding") rfl
  have UNoAsk := c.err 4 (x := "NoAsk") rfl
  have UNoAnswer := c.err 5 (x := "NoAnswer") rfl
  have UBadPrice := c.err 6 (x := "BadPrice") rfl
  have UBadOrder := c.err 7 (x := "BadOrder") rfl
  have UBadCount := c.err 8 (x := "BadCount") rfl
  have UTooMany := c.err 9 (x := "TooMany") rfl
  have UBadIncome := c.err 10 (x := "BadIncome") rfl
  have UBadTable := c.err 11 (x := "BadTable") rfl
  have UBadWhole := c.err 12 (x := "BadWhole") rfl
  have UBadLink := c.err 13 (x := "BadLink") rfl
  have UBadIncomes := c.err 14 (x := "BadIncomes") rfl
  have UBadPapers := c.err 15 (x := "BadPapers") rfl
  have UBadRule := c.err 16 (x := "BadRule") rfl
  have UBadLot := c.err 17 (x := "BadLot") rfl
  have UBadGap := c.err 18 (x := "BadGap") rfl
  have UBadPlace := c.err 19 (x := "BadPlace") rfl
  have UBadExchange := c.err 20 (x := "BadExchange") rfl
  have UNoRoom := c.err 21 (x := "NoRoom") rfl
  have UBadPair := c.err 22 (x := "BadPair") rfl
  have UBadSeats := c.err 23 (x := "BadSeats") rfl
  have UBadWish := c.err 24 (x := "BadWish") rfl
  have UBadRecipes := c.err 25 (x := "BadRecipes") rfl
  have UBadValue := c.err 26 (x := "BadValue") rfl
  have UBadDiary := c.err 27 (x := "BadDiary") rfl
  have UBadName := c.err 28 (x := "BadName") rfl
  have UBadRow := c.err 29 (x := "BadRow") rfl
  have UNoTurn := c.err 30 (x := "NoTurn") rfl
  have UOwing := c.err 31 (x := "Owing") rfl
  have UNoSafe := c.err 32 (x := "NoSafe") rfl
  have UBadDeed := c.err 33 (x := "BadDeed") rfl
  have UBadText := c.err 34 (x := "BadText") rfl
  refine fn_ok (k := 0) F scLEmpty ?len (fun cdv A outer s H E hr => ⟨_, PSs.nox (pss_cons (ps_set (i := 0) scLEmpty.nd rfl (by first | exact Or.inl rfl | exact Or.inr rfl) (pe_lst (pa_cons (pe_err0 TX UBadShare mg_BadShare mg_super hr (by rfl)) (pa_cons (pe_err0 TX UBadWorld mg_BadWorld mg_super hr (by rfl)) (pa_cons (pe_err0 TX UNoStanding mg_NoStanding mg_super hr (by rfl)) (pa_cons (pe_err0 TX UNoAsk mg_NoAsk mg_super hr (by rfl)) (pa_cons (pe_err0 TX UNoAnswer mg_NoAnswer mg_super hr (by rfl)) (pa_cons (pe_err0 TX UBadPrice mg_BadPrice mg_super hr (by rfl)) (pa_cons (pe_err0 TX UBadOrder mg_BadOrder mg_super hr (by rfl)) (pa_cons (pe_err0 TX UBadCount mg_BadCount mg_super hr (by rfl)) pa_nil))))))))))
  (pss_cons (ps_set (i := 0) scLEmpty.nd rfl (by first | exact Or.inl rfl | exact Or.inr rfl) (pe_op op_cat (pv 0) (pe_lst (pa_cons (pe_err0 TX UTooMany mg_TooMany mg_super hr (by rfl)) (pa_cons (pe_err0 TX UBadIncome mg_BadIncome mg_super hr (by rfl)) (pa_cons (pe_err0 TX UBadTable mg_BadTable mg_super hr (by rfl)) (pa_cons (pe_err0 TX UBadWhole mg_BadWhole mg_super hr (by rfl)) (pa_cons (pe_err0 TX UBadLink mg_BadLink mg_super hr (by rfl)) (pa_cons (pe_err0 TX UBadIncomes mg_BadIncomes mg_super hr (by rfl)) (pa_cons (pe_err0 TX UBadPapers mg_BadPapers mg_super hr (by rfl)) (pa_cons (pe_err0 TX UBadRule mg_BadRule mg_super hr (by rfl)) pa_nil)))))))))))
  (pss_cons (ps_set (i := 0) scLEmpty.nd rfl (by first | exact Or.inl rfl | exact Or.inr rfl) (pe_op op_cat (pv 0) (pe_lst (pa_cons (pe_err0 TX UBadLot mg_BadLot mg_super hr (by rfl)) (pa_cons (pe_err0 TX UBadGap mg_BadGap mg_super hr (by rfl)) (pa_cons (pe_err0 TX UBadPlace mg_BadPlace mg_super hr (by rfl)) (pa_cons (pe_err0 TX UBadExchange mg_BadExchange mg_super hr (by rfl)) (pa_cons (pe_err0 TX UNoRoom mg_NoRoom mg_super hr (by rfl)) (pa_cons (pe_err0 TX UBadPair mg_BadPair mg_super hr (by rfl)) (pa_cons (pe_err0 TX UBadSeats mg_BadSeats mg_super hr (by rfl)) (pa_cons (pe_err0 TX UBadWish mg_BadWish mg_super hr (by rfl)) (pa_cons (pe_err0 TX UBadRecipes mg_BadRecipes mg_super hr (by rfl)) pa_nil))))))))))))
  (pss_one (ps_ret (pe_op op_cat (pv 0) (pe_lst (pa_cons (pe_err0 TX UBadValue mg_BadValue mg_super hr (by rfl)) (pa_cons (pe_err0 TX UBadDiary mg_BadDiary mg_super hr (by rfl)) (pa_cons (pe_err0 TX UBadName mg_BadName mg_super hr (by rfl)) (pa_cons (pe_err0 TX UBadRow mg_BadRow mg_super hr (by rfl)) (pa_cons (pe_err0 TX UNoTurn mg_NoTurn mg_super hr (by rfl)) (pa_cons (pe_err0 TX UOwing mg_Owing mg_super hr (by rfl)) (pa_cons (pe_err0 TX UNoSafe mg_NoSafe mg_super hr (by rfl)) (pa_cons (pe_err0 TX UBadDeed mg_BadDeed mg_super hr (by rfl)) (pa_cons (pe_err0 TX UBadText mg_BadText mg_super hr (by rfl)) pa_nil)))))))))))))))), ?_⟩)
  case len => rintro m Ps O ⟨rfl, _⟩; rfl
  rintro m Ps O ⟨rfl, rfl⟩
  refine bl_set (P := ls ((errPs K (dq K .none)).take 8)) ((ev_ls (Ps := ((errPs K (dq K .none)).drop 0).take 8) (ea_cons (EvD.to (ev_err0 (K := K)) fun v G ⟨e, d, u, h, h1, h2, h3⟩ => ⟨e, d, u, h, h1, h2, Dp.q h3⟩) (ea_cons (EvD.to (ev_err0 (K := K)) fun v G ⟨e, d, u, h, h1, h2, h3⟩ => ⟨e, d, u, h, h1, h2, Dp.q h3⟩) (ea_cons (EvD.to (ev_err0 (K := K)) fun v G ⟨e, d, u, h, h1, h2, h3⟩ => ⟨e, d, u, h, h1, h2, Dp.q h3⟩) (ea_cons (EvD.to (ev_err0 (K := K)) fun v G ⟨e, d, u, h, h1, h2, h3⟩ => ⟨e, d, u, h, h1, h2, Dp.q h3⟩) (ea_cons (EvD.to (ev_err0 (K := K)) fun v G ⟨e, d, u, h, h1, h2, h3⟩ => ⟨e, d, u, h, h1, h2, Dp.q h3⟩) (ea_cons (EvD.to (ev_err0 (K := K)) fun v G ⟨e, d, u, h, h1, h2, h3⟩ => ⟨e, d, u, h, h1, h2, Dp.q h3⟩) (ea_cons (EvD.to (ev_err0 (K := K)) fun v G ⟨e, d, u, h, h1, h2, h3⟩ => ⟨e, d, u, h, h1, h2, Dp.q h3⟩) (ea_cons (EvD.to (ev_err0 (K := K)) fun v G ⟨e, d, u, h, h1, h2, h3⟩ => ⟨e, d, u, h, h1, h2, Dp.q h3⟩) ea_nil)))))))) (by show 8 ≤ 100000; decide)).to fun v G p => p) ?_
  try dsimp only [List.set]
  refine bl_set (P := ls ((errPs K (dq K .none)).take 16)) ((ev_lsCat (Ps := (errPs K (dq K .none)).take 8) (Qs := ((errPs K (dq K .none)).drop 8).take 8) (ev_var rfl) (ev_ls (Ps := ((errPs K (dq K .none)).drop 8).take 8) (ea_cons (EvD.to (ev_err0 (K := K)) fun v G ⟨e, d, u, h, h1, h2, h3⟩ => ⟨e, d, u, h, h1, h2, Dp.q h3⟩) (ea_cons (EvD.to (ev_err0 (K := K)) fun v G ⟨e, d, u, h, h1, h2, h3⟩ => ⟨e, d, u, h, h1, h2, Dp.q h3⟩) (ea_cons (EvD.to (ev_err0 (K := K)) fun v G ⟨e, d, u, h, h1, h2, h3⟩ => ⟨e, d, u, h, h1, h2, Dp.q h3⟩) (ea_cons (EvD.to (ev_err0 (K := K)) fun v G ⟨e, d, u, h, h1, h2, h3⟩ => ⟨e, d, u, h, h1, h2, Dp.q h3⟩) (ea_cons (EvD.to (ev_err0 (K := K)) fun v G ⟨e, d, u, h, h1, h2, h3⟩ => ⟨e, d, u, h, h1, h2, Dp.q h3⟩) (ea_cons (EvD.to (ev_err0 (K := K)) fun v G ⟨e, d, u, h, h1, h2, h3⟩ => ⟨e, d, u, h, h1, h2, Dp.q h3⟩) (ea_cons (EvD.to (ev_err0 (K := K)) fun v G ⟨e, d, u, h, h1, h2, h3⟩ => ⟨e, d, u, h, h1, h2, Dp.q h3⟩) (ea_cons (EvD.to (ev_err0 (K := K)) fun v G ⟨e, d, u, h, h1, h2, h3⟩ => ⟨e, d, u, h, h1, h2, Dp.q h3⟩) ea_nil)))))))) (by show 8 ≤ 100000; decide)) (by show 8 + 8 ≤ 100000; decide)).to fun v G p => p) ?_
  try dsimp only [List.set]
  refine bl_set (P := ls ((errPs K (dq K .none)).take 25)) ((ev_lsCat (Ps := (errPs K (dq K .none)).take 16) (Qs := ((errPs K (dq K .none)).drop 16).take 9) (ev_var rfl) (ev_ls (Ps := ((errPs K (dq K .none)).drop 16).take 9) (ea_cons (EvD.to (ev_err0 (K := K)) fun v G ⟨e, d, u, h, h1, h2, h3⟩ => ⟨e, d, u, h, h1, h2, Dp.q h3⟩) (ea_cons (EvD.to (ev_err0 (K := K)) fun v G ⟨e, d, u, h, h1, h2, h3⟩ => ⟨e, d, u, h, h1, h2, Dp.q h3⟩) (ea_cons (EvD.to (ev_err0 (K := K)) fun v G ⟨e, d, u, h, h1, h2, h3⟩ => ⟨e, d, u, h, h1, h2, Dp.q h3⟩) (ea_cons (EvD.to (ev_err0 (K := K)) fun v G ⟨e, d, u, h, h1, h2, h3⟩ => ⟨e, d, u, h, h1, h2, Dp.q h3⟩) (ea_cons (EvD.to (ev_err0 (K := K)) fun v G ⟨e, d, u, h, h1, h2, h3⟩ => ⟨e, d, u, h, h1, h2, Dp.q h3⟩) (ea_cons (EvD.to (ev_err0 (K := K)) fun v G ⟨e, d, u, h, h1, h2, h3⟩ => ⟨e, d, u, h, h1, h2, Dp.q h3⟩) (ea_cons (EvD.to (ev_err0 (K := K)) fun v G ⟨e, d, u, h, h1, h2, h3⟩ => ⟨e, d, u, h, h1, h2, Dp.q h3⟩) (ea_cons (EvD.to (ev_err0 (K := K)) fun v G ⟨e, d, u, h, h1, h2, h3⟩ => ⟨e, d, u, h, h1, h2, Dp.q h3⟩) (ea_cons (EvD.to (ev_err0 (K := K)) fun v G ⟨e, d, u, h, h1, h2, h3⟩ => ⟨e, d, u, h, h1, h2, Dp.q h3⟩) ea_nil))))))))) (by show 9 ≤ 100000; decide)) (by show 16 + 9 ≤ 100000; decide)).to fun v G p => p) ?_
  try dsimp only [List.set]
  exact bl_ret ((ev_lsCat (Ps := (errPs K (dq K .none)).take 25) (Qs := ((errPs K (dq K .none)).drop 25).take 9) (ev_var rfl) (ev_ls (Ps := ((errPs K (dq K .none)).drop 25).take 9) (ea_cons (EvD.to (ev_err0 (K := K)) fun v G ⟨e, d, u, h, h1, h2, h3⟩ => ⟨e, d, u, h, h1, h2, Dp.q h3⟩) (ea_cons (EvD.to (ev_err0 (K := K)) fun v G ⟨e, d, u, h, h1, h2, h3⟩ => ⟨e, d, u, h, h1, h2, Dp.q h3⟩) (ea_cons (EvD.to (ev_err0 (K := K)) fun v G ⟨e, d, u, h, h1, h2, h3⟩ => ⟨e, d, u, h, h1, h2, Dp.q h3⟩) (ea_cons (EvD.to (ev_err0 (K := K)) fun v G ⟨e, d, u, h, h1, h2, h3⟩ => ⟨e, d, u, h, h1, h2, Dp.q h3⟩) (ea_cons (EvD.to (ev_err0 (K := K)) fun v G ⟨e, d, u, h, h1, h2, h3⟩ => ⟨e, d, u, h, h1, h2, Dp.q h3⟩) (ea_cons (EvD.to (ev_err0 (K := K)) fun v G ⟨e, d, u, h, h1, h2, h3⟩ => ⟨e, d, u, h, h1, h2, Dp.q h3⟩) (ea_cons (EvD.to (ev_err0 (K := K)) fun v G ⟨e, d, u, h, h1, h2, h3⟩ => ⟨e, d, u, h, h1, h2, Dp.q h3⟩) (ea_cons (EvD.to (ev_err0 (K := K)) fun v G ⟨e, d, u, h, h1, h2, h3⟩ => ⟨e, d, u, h, h1, h2, Dp.q h3⟩) (ea_cons (EvD.to (ev_err0 (K := K)) fun v G ⟨e, d, u, h, h1, h2, h3⟩ => ⟨e, d, u, h, h1, h2, Dp.q h3⟩) ea_nil))))))))) (by show 9 ≤ 100000; decide)) (by show 25 + 9 ≤ 100000; decide)).to fun v G p => p) rfl

theorem ok_LMarks {w : World} {K : PySem.W.Frag} {h : Heap} {mg : Str → Option Value} {base : Heap} (X : K.In h) (Gm : h.Ns mainGlobals mg) (c : Says K) : ∃ fd, FnOk PP w K mg base CX0 1 (He.ga K "_law_marks") fd ["_law_error"] (spF (FMarks K)) ∧ FunD K dLMarks.name dLMarks.qual dLMarks.params dLMarks.body dLMarks.scope (He.DefD.dvs K dLMarks) (He.DefD.kws K dLMarks) (He.fAd K dLMarks.at_) fd ∧ PySem.W.keepIn K (.ref (He.ga K "_law_marks")) = true := by
  obtain ⟨fd, F⟩ := c.d.def_ 8 (d := dLMarks) rfl
  refine ⟨fd, ?_, F, F.kp⟩
  have mg_BadCount := He.glo_ok X Gm (c.d.fact 19 (f := .glo "BadCount") rfl)
  have mg_BadDeed := He.glo_ok X Gm (c.d.fact 44 (f := .glo "BadDeed") rfl)
  have mg_BadDiary := He.glo_ok X Gm (c.d.fact 38 (f := .glo "BadDiary") rfl)
  have mg_BadExchange := He.glo_ok X Gm (c.d.fact 31 (f := .glo "BadExchange") rfl)
  have mg_BadGap := He.glo_ok X Gm (c.d.fact 29 (f := .glo "BadGap") rfl)
  have mg_BadIncome := He.glo_ok X Gm (c.d.fact 21 (f := .glo "BadIncome") rfl)
  have mg_BadIncomes := He.glo_ok X Gm (c.d.fact 25 (f := .glo "BadIncomes") rfl)
  have mg_BadLink := He.glo_ok X Gm (c.d.fact 24 (f := .glo "BadLink") rfl)
  have mg_BadLot := He.glo_ok X Gm (c.d.fact 28 (f := .glo "BadLot") rfl)
  have mg_BadName := He.glo_ok X Gm (c.d.fact 39 (f := .glo "BadName") rfl)
  have mg_BadOrder := He.glo_ok X Gm (c.d.fact 18 (f := .glo "BadOrder") rfl)
  have mg_BadPair := He.glo_ok X Gm (c.d.fact 33 (f := .glo "BadPair") rfl)
  have mg_BadPapers := He.glo_ok X Gm (c.d.fact 26 (f := .glo "BadPapers") rfl)
  have mg_BadPlace := He.glo_ok X Gm (c.d.fact 30 (f := .glo "BadPlace") rfl)
  have mg_BadPrice := He.glo_ok X Gm (c.d.fact 17 (f := .glo "BadPrice") rfl)
  have mg_BadRecipes := He.glo_ok X Gm (c.d.fact 36 (f := .glo "BadRecipes") rfl)
  have mg_BadRow := He.glo_ok X Gm (c.d.fact 40 (f := .glo "BadRow") rfl)
  have mg_BadRule := He.glo_ok X Gm (c.d.fact 27 (f := .glo "BadRule") rfl)
  have mg_BadSeats := He.glo_ok X Gm (c.d.fact 34 (f := .glo "BadSeats") rfl)
  have mg_BadShare := He.glo_ok X Gm (c.d.fact 12 (f := .glo "BadShare") rfl)
  have mg_BadTable := He.glo_ok X Gm (c.d.fact 22 (f := .glo "BadTable") rfl)
  have mg_BadText := He.glo_ok X Gm (c.d.fact 45 (f := .glo "BadText") rfl)
  have mg_BadValue := He.glo_ok X Gm (c.d.fact 37 (f := .glo "BadValue") rfl)
  have mg_BadWhole := He.glo_ok X Gm (c.d.fact 23 (f := .glo "BadWhole") rfl)
  have mg_BadWish := He.glo_ok X Gm (c.d.fact 35 (f := .glo "BadWish") rfl)
  have mg_BadWorld := He.glo_ok X Gm (c.d.fact 13 (f := .glo "BadWorld") rfl)
  have mg_NoAnswer := He.glo_ok X Gm (c.d.fact 16 (f := .glo "NoAnswer") rfl)
  have mg_NoAsk := He.glo_ok X Gm (c.d.fact 15 (f := .glo "NoAsk") rfl)
  have mg_NoRoom := He.glo_ok X Gm (c.d.fact 32 (f := .glo "NoRoom") rfl)
  have mg_NoSafe := He.glo_ok X Gm (c.d.fact 43 (f := .glo "NoSafe") rfl)
  have mg_NoStanding := He.glo_ok X Gm (c.d.fact 14 (f := .glo "NoStanding") rfl)
  have mg_NoTurn := He.glo_ok X Gm (c.d.fact 41 (f := .glo "NoTurn") rfl)
  have mg_Owing := He.glo_ok X Gm (c.d.fact 42 (f := .glo "Owing") rfl)
  have mg_TooMany := He.glo_ok X Gm (c.d.fact 20 (f := .glo "TooMany") rfl)
  have mg_isinstance := He.free_ok X Gm (c.d.fact 48 (f := .free "isinstance") rfl)
  have TX := (txt c).1
  have SM := (txt c).2
  have EK : ∀ x ∈ eks, He.EkC K eks x := fun x hx => He.ek_ok (List.all_eq_true.mp c.k x hx)
  refine fn_ok (k := 0) F scLMarks ?len (fun cdv A outer s H E hr => ⟨_, PSs.nox (pss_cons (ps_set (i := 1) scLMarks.nd rfl (by first | exact Or.inl rfl | exact Or.inr rfl) (pe_lst pa_nil))
  (pss_cons (ps_expr (pe_bm PySem.F.plainAttrs_list PySem.F.slot_list_append PySem.F.type_list_append mt_append (pv 1) (pa_cons (pe_callB (call_isE (K := K) (D := He.oD K) (fI := He.oI K) rfl) (by rfl) mg_isinstance (by decide +kernel) (pa_cons (pv 0) (pa_cons (pe_glob (v := .ref (He.ga K "BadShare")) (by rfl) mg_BadShare rfl) pa_nil))) pa_nil)))
  (pss_cons (ps_expr (pe_bm PySem.F.plainAttrs_list PySem.F.slot_list_append PySem.F.type_list_append mt_append (pv 1) (pa_cons (pe_callB (call_isE (K := K) (D := He.oD K) (fI := He.oI K) rfl) (by rfl) mg_isinstance (by decide +kernel) (pa_cons (pv 0) (pa_cons (pe_glob (v := .ref (He.ga K "BadWorld")) (by rfl) mg_BadWorld rfl) pa_nil))) pa_nil)))
  (pss_cons (ps_expr (pe_bm PySem.F.plainAttrs_list PySem.F.slot_list_append PySem.F.type_list_append mt_append (pv 1) (pa_cons (pe_callB (call_isE (K := K) (D := He.oD K) (fI := He.oI K) rfl) (by rfl) mg_isinstance (by decide +kernel) (pa_cons (pv 0) (pa_cons (pe_glob (v := .ref (He.ga K "NoStanding")) (by rfl) mg_NoStanding rfl) pa_nil))) pa_nil)))
  (pss_cons (ps_expr (pe_bm PySem.F.plainAttrs_list PySem.F.slot_list_append PySem.F.type_list_append mt_append (pv 1) (pa_cons (pe_callB (call_isE (K := K) (D := He.oD K) (fI := He.oI K) rfl) (by rfl) mg_isinstance (by decide +kernel) (pa_cons (pv 0) (pa_cons (pe_glob (v := .ref (He.ga K "NoAsk")) (by rfl) mg_NoAsk rfl) pa_nil))) pa_nil)))
  (pss_cons (ps_expr (pe_bm PySem.F.plainAttrs_list PySem.F.slot_list_append PySem.F.type_list_append mt_append (pv 1) (pa_cons (pe_callB (call_isE (K := K) (D := He.oD K) (fI := He.oI K) rfl) (by rfl) mg_isinstance (by decide +kernel) (pa_cons (pv 0) (pa_cons (pe_glob (v := .ref (He.ga K "NoAnswer")) (by rfl) mg_NoAnswer rfl) pa_nil))) pa_nil)))
  (pss_cons (ps_expr (pe_bm PySem.F.plainAttrs_list PySem.F.slot_list_append PySem.F.type_list_append mt_append (pv 1) (pa_cons (pe_callB (call_isE (K := K) (D := He.oD K) (fI := He.oI K) rfl) (by rfl) mg_isinstance (by decide +kernel) (pa_cons (pv 0) (pa_cons (pe_glob (v := .ref (He.ga K "BadPrice")) (by rfl) mg_BadPrice rfl) pa_nil))) pa_nil)))
  (pss_cons (ps_expr (pe_bm PySem.F.plainAttrs_list PySem.F.slot_list_append PySem.F.type_list_append mt_append (pv 1) (pa_cons (pe_callB (call_isE (K := K) (D := He.oD K) (fI := He.oI K) rfl) (by rfl) mg_isinstance (by decide +kernel) (pa_cons (pv 0) (pa_cons (pe_glob (v := .ref (He.ga K "BadOrder")) (by rfl) mg_BadOrder rfl) pa_nil))) pa_nil)))
  (pss_cons (ps_expr (pe_bm PySem.F.plainAttrs_list PySem.F.slot_list_append PySem.F.type_list_append mt_append (pv 1) (pa_cons (pe_callB (call_isE (K := K) (D := He.oD K) (fI := He.oI K) rfl) (by rfl) mg_isinstance (by decide +kernel) (pa_cons (pv 0) (pa_cons (pe_glob (v := .ref (He.ga K "BadCount")) (by rfl) mg_BadCount rfl) pa_nil))) pa_nil)))
  (pss_cons (ps_expr (pe_bm PySem.F.plainAttrs_list PySem.F.slot_list_append PySem.F.type_list_append mt_append (pv 1) (pa_cons (pe_callB (call_isE (K := K) (D := He.oD K) (fI := He.oI K) rfl) (by rfl) mg_isinstance (by decide +kernel) (pa_cons (pv 0) (pa_cons (pe_glob (v := .ref (He.ga K "TooMany")) (by rfl) mg_TooMany rfl) pa_nil))) pa_nil)))
  (pss_cons (ps_expr (pe_bm PySem.F.plainAttrs_list PySem.F.slot_list_append PySem.F.type_list_append mt_append (pv 1) (pa_cons (pe_callB (call_isE (K := K) (D := He.oD K) (fI := He.oI K) rfl) (by rfl) mg_isinstance (by decide +kernel) (pa_cons (pv 0) (pa_cons (pe_glob (v := .ref (He.ga K "BadIncome")) (by rfl) mg_BadIncome rfl) pa_nil))) pa_nil)))
  (pss_cons (ps_expr (pe_bm PySem.F.plainAttrs_list PySem.F.slot_list_append PySem.F.type_list_append mt_append (pv 1) (pa_cons (pe_callB (call_isE (K := K) (D := He.oD K) (fI := He.oI K) rfl) (by rfl) mg_isinstance (by decide +kernel) (pa_cons (pv 0) (pa_cons (pe_glob (v := .ref (He.ga K "BadTable")) (by rfl) mg_BadTable rfl) pa_nil))) pa_nil)))
  (pss_cons (ps_expr (pe_bm PySem.F.plainAttrs_list PySem.F.slot_list_append PySem.F.type_list_append mt_append (pv 1) (pa_cons (pe_callB (call_isE (K := K) (D := He.oD K) (fI := He.oI K) rfl) (by rfl) mg_isinstance (by decide +kernel) (pa_cons (pv 0) (pa_cons (pe_glob (v := .ref (He.ga K "BadWhole")) (by rfl) mg_BadWhole rfl) pa_nil))) pa_nil)))
  (pss_cons (ps_expr (pe_bm PySem.F.plainAttrs_list PySem.F.slot_list_append PySem.F.type_list_append mt_append (pv 1) (pa_cons (pe_callB (call_isE (K := K) (D := He.oD K) (fI := He.oI K) rfl) (by rfl) mg_isinstance (by decide +kernel) (pa_cons (pv 0) (pa_cons (pe_glob (v := .ref (He.ga K "BadLink")) (by rfl) mg_BadLink rfl) pa_nil))) pa_nil)))
  (pss_cons (ps_expr (pe_bm PySem.F.plainAttrs_list PySem.F.slot_list_append PySem.F.type_list_append mt_append (pv 1) (pa_cons (pe_callB (call_isE (K := K) (D := He.oD K) (fI := He.oI K) rfl) (by rfl) mg_isinstance (by decide +kernel) (pa_cons (pv 0) (pa_cons (pe_glob (v := .ref (He.ga K "BadIncomes")) (by rfl) mg_BadIncomes rfl) pa_nil))) pa_nil)))
  (pss_cons (ps_expr (pe_bm PySem.F.plainAttrs_list PySem.F.slot_list_append PySem.F.type_list_append mt_append (pv 1) (pa_cons (pe_callB (call_isE (K := K) (D := He.oD K) (fI := He.oI K) rfl) (by rfl) mg_isinstance (by decide +kernel) (pa_cons (pv 0) (pa_cons (pe_glob (v := .ref (He.ga K "BadPapers")) (by rfl) mg_BadPapers rfl) pa_nil))) pa_nil)))
  (pss_cons (ps_expr (pe_bm PySem.F.plainAttrs_list PySem.F.slot_list_append PySem.F.type_list_append mt_append (pv 1) (pa_cons (pe_callB (call_isE (K := K) (D := He.oD K) (fI := He.oI K) rfl) (by rfl) mg_isinstance (by decide +kernel) (pa_cons (pv 0) (pa_cons (pe_glob (v := .ref (He.ga K "BadRule")) (by rfl) mg_BadRule rfl) pa_nil))) pa_nil)))
  (pss_cons (ps_expr (pe_bm PySem.F.plainAttrs_list PySem.F.slot_list_append PySem.F.type_list_append mt_append (pv 1) (pa_cons (pe_callB (call_isE (K := K) (D := He.oD K) (fI := He.oI K) rfl) (by rfl) mg_isinstance (by decide +kernel) (pa_cons (pv 0) (pa_cons (pe_glob (v := .ref (He.ga K "BadLot")) (by rfl) mg_BadLot rfl) pa_nil))) pa_nil)))
  (pss_cons (ps_expr (pe_bm PySem.F.plainAttrs_list PySem.F.slot_list_append PySem.F.type_list_append mt_append (pv 1) (pa_cons (pe_callB (call_isE (K := K) (D := He.oD K) (fI := He.oI K) rfl) (by rfl) mg_isinstance (by decide +kernel) (pa_cons (pv 0) (pa_cons (pe_glob (v := .ref (He.ga K "BadGap")) (by rfl) mg_BadGap rfl) pa_nil))) pa_nil)))
  (pss_cons (ps_expr (pe_bm PySem.F.plainAttrs_list PySem.F.slot_list_append PySem.F.type_list_append mt_append (pv 1) (pa_cons (pe_callB (call_isE (K := K) (D := He.oD K) (fI := He.oI K) rfl) (by rfl) mg_isinstance (by decide +kernel) (pa_cons (pv 0) (pa_cons (pe_glob (v := .ref (He.ga K "BadPlace")) (by rfl) mg_BadPlace rfl) pa_nil))) pa_nil)))
  (pss_cons (ps_expr (pe_bm PySem.F.plainAttrs_list PySem.F.slot_list_append PySem.F.type_list_append mt_append (pv 1) (pa_cons (pe_callB (call_isE (K := K) (D := He.oD K) (fI := He.oI K) rfl) (by rfl) mg_isinstance (by decide +kernel) (pa_cons (pv 0) (pa_cons (pe_glob (v := .ref (He.ga K "BadExchange")) (by rfl) mg_BadExchange rfl) pa_nil))) pa_nil)))
  (pss_cons (ps_expr (pe_bm PySem.F.plainAttrs_list PySem.F.slot_list_append PySem.F.type_list_append mt_append (pv 1) (pa_cons (pe_callB (call_isE (K := K) (D := He.oD K) (fI := He.oI K) rfl) (by rfl) mg_isinstance (by decide +kernel) (pa_cons (pv 0) (pa_cons (pe_glob (v := .ref (He.ga K "NoRoom")) (by rfl) mg_NoRoom rfl) pa_nil))) pa_nil)))
  (pss_cons (ps_expr (pe_bm PySem.F.plainAttrs_list PySem.F.slot_list_append PySem.F.type_list_append mt_append (pv 1) (pa_cons (pe_callB (call_isE (K := K) (D := He.oD K) (fI := He.oI K) rfl) (by rfl) mg_isinstance (by decide +kernel) (pa_cons (pv 0) (pa_cons (pe_glob (v := .ref (He.ga K "BadPair")) (by rfl) mg_BadPair rfl) pa_nil))) pa_nil)))
  (pss_cons (ps_expr (pe_bm PySem.F.plainAttrs_list PySem.F.slot_list_append PySem.F.type_list_append mt_append (pv 1) (pa_cons (pe_callB (call_isE (K := K) (D := He.oD K) (fI := He.oI K) rfl) (by rfl) mg_isinstance (by decide +kernel) (pa_cons (pv 0) (pa_cons (pe_glob (v := .ref (He.ga K "BadSeats")) (by rfl) mg_BadSeats rfl) pa_nil))) pa_nil)))
  (pss_cons (ps_expr (pe_bm PySem.F.plainAttrs_list PySem.F.slot_list_append PySem.F.type_list_append mt_append (pv 1) (pa_cons (pe_callB (call_isE (K := K) (D := He.oD K) (fI := He.oI K) rfl) (by rfl) mg_isinstance (by decide +kernel) (pa_cons (pv 0) (pa_cons (pe_glob (v := .ref (He.ga K "BadWish")) (by rfl) mg_BadWish rfl) pa_nil))) pa_nil)))
  (pss_cons (ps_expr (pe_bm PySem.F.plainAttrs_list PySem.F.slot_list_append PySem.F.type_list_append mt_append (pv 1) (pa_cons (pe_callB (call_isE (K := K) (D := He.oD K) (fI := He.oI K) rfl) (by rfl) mg_isinstance (by decide +kernel) (pa_cons (pv 0) (pa_cons (pe_glob (v := .ref (He.ga K "BadRecipes")) (by rfl) mg_BadRecipes rfl) pa_nil))) pa_nil)))
  (pss_cons (ps_expr (pe_bm PySem.F.plainAttrs_list PySem.F.slot_list_append PySem.F.type_list_append mt_append (pv 1) (pa_cons (pe_callB (call_isE (K := K) (D := He.oD K) (fI := He.oI K) rfl) (by rfl) mg_isinstance (by decide +kernel) (pa_cons (pv 0) (pa_cons (pe_glob (v := .ref (He.ga K "BadValue")) (by rfl) mg_BadValue rfl) pa_nil))) pa_nil)))
  (pss_cons (ps_expr (pe_bm PySem.F.plainAttrs_list PySem.F.slot_list_append PySem.F.type_list_append mt_append (pv 1) (pa_cons (pe_callB (call_isE (K := K) (D := He.oD K) (fI := He.oI K) rfl) (by rfl) mg_isinstance (by decide +kernel) (pa_cons (pv 0) (pa_cons (pe_glob (v := .ref (He.ga K "BadDiary")) (by rfl) mg_BadDiary rfl) pa_nil))) pa_nil)))
  (pss_cons (ps_expr (pe_bm PySem.F.plainAttrs_list PySem.F.slot_list_append PySem.F.type_list_append mt_append (pv 1) (pa_cons (pe_callB (call_isE (K := K) (D := He.oD K) (fI := He.oI K) rfl) (by rfl) mg_isinstance (by decide +kernel) (pa_cons (pv 0) (pa_cons (pe_glob (v := .ref (He.ga K "BadName")) (by rfl) mg_BadName rfl) pa_nil))) pa_nil)))
  (pss_cons (ps_expr (pe_bm PySem.F.plainAttrs_list PySem.F.slot_list_append PySem.F.type_list_append mt_append (pv 1) (pa_cons (pe_callB (call_isE (K := K) (D := He.oD K) (fI := He.oI K) rfl) (by rfl) mg_isinstance (by decide +kernel) (pa_cons (pv 0) (pa_cons (pe_glob (v := .ref (He.ga K "BadRow")) (by rfl) mg_BadRow rfl) pa_nil))) pa_nil)))
  (pss_cons (ps_expr (pe_bm PySem.F.plainAttrs_list PySem.F.slot_list_append PySem.F.type_list_append mt_append (pv 1) (pa_cons (pe_callB (call_isE (K := K) (D := He.oD K) (fI := He.oI K) rfl) (by rfl) mg_isinstance (by decide +kernel) (pa_cons (pv 0) (pa_cons (pe_glob (v := .ref (He.ga K "NoTurn")) (by rfl) mg_NoTurn rfl) pa_nil))) pa_nil)))
  (pss_cons (ps_expr (pe_bm PySem.F.plainAttrs_list PySem.F.slot_list_append PySem.F.type_list_append mt_append (pv 1) (pa_cons (pe_callB (call_isE (K := K) (D := He.oD K) (fI := He.oI K) rfl) (by rfl) mg_isinstance (by decide +kernel) (pa_cons (pv 0) (pa_cons (pe_glob (v := .ref (He.ga K "Owing")) (by rfl) mg_Owing rfl) pa_nil))) pa_nil)))
  (pss_cons (ps_expr (pe_bm PySem.F.plainAttrs_list PySem.F.slot_list_append PySem.F.type_list_append mt_append (pv 1) (pa_cons (pe_callB (call_isE (K := K) (D := He.oD K) (fI := He.oI K) rfl) (by rfl) mg_isinstance (by decide +kernel) (pa_cons (pv 0) (pa_cons (pe_glob (v := .ref (He.ga K "NoSafe")) (by rfl) mg_NoSafe rfl) pa_nil))) pa_nil)))
  (pss_cons (ps_expr (pe_bm PySem.F.plainAttrs_list PySem.F.slot_list_append PySem.F.type_list_append mt_append (pv 1) (pa_cons (pe_callB (call_isE (K := K) (D := He.oD K) (fI := He.oI K) rfl) (by rfl) mg_isinstance (by decide +kernel) (pa_cons (pv 0) (pa_cons (pe_glob (v := .ref (He.ga K "BadDeed")) (by rfl) mg_BadDeed rfl) pa_nil))) pa_nil)))
  (pss_cons (ps_expr (pe_bm PySem.F.plainAttrs_list PySem.F.slot_list_append PySem.F.type_list_append mt_append (pv 1) (pa_cons (pe_callB (call_isE (K := K) (D := He.oD K) (fI := He.oI K) rfl) (by rfl) mg_isinstance (by decide +kernel) (pa_cons (pv 0) (pa_cons (pe_glob (v := .ref (He.ga K "BadText")) (by rfl) mg_BadText rfl) pa_nil))) pa_nil)))
  (pss_one (ps_ret (pv 1)))))))))))))))))))))))))))))))))))))), ?_⟩)
  case len => rintro m Ps O ⟨x, P, _, rfl, _⟩; rfl
  rintro m Ps O ⟨x, P, hx, rfl, rfl⟩
  have U : OweX.Cls K (He.oD K) (He.oI K) (He.ga K x) := He.err_ok (List.all_eq_true.mp c.e x hx)
  refine bl_bo (bo_newL (fun p _ => ?_))
  refine Bo.onlyRt (marks_run U (EK x hx) nms [] p [] (by decide) (by decide)) (fun R h => ?_)
  rw [h]
  unfold marks marksB
  rw [List.map_map]
  rfl

theorem ok_LIsError {w : World} {K : PySem.W.Frag} {h : Heap} {mg : Str → Option Value} {base : Heap} (X : K.In h) (Gm : h.Ns mainGlobals mg) (c : Says K) : ∃ fd, FnG PP w K mg base CX0 1 (He.ga K "_law_is_error") fd ["_law_error", "_law_thing"] (spF (FIsErr K)) ∧ FunD K dLIsError.name dLIsError.qual dLIsError.params dLIsError.body dLIsError.scope (He.DefD.dvs K dLIsError) (He.DefD.kws K dLIsError) (He.fAd K dLIsError.at_) fd ∧ PySem.W.keepIn K (.ref (He.ga K "_law_is_error")) = true := by
  obtain ⟨fd, F⟩ := c.d.def_ 9 (d := dLIsError) rfl
  refine ⟨fd, ?_, F, F.kp⟩
  have mg_OweError := He.glo_ok X Gm (c.d.fact 11 (f := .glo "OweError") rfl)
  have mg_ValueError := He.free_ok X Gm (c.d.fact 53 (f := .free "ValueError") rfl)
  have mg_isinstance := He.free_ok X Gm (c.d.fact 48 (f := .free "isinstance") rfl)
  have mg_repr := He.free_ok X Gm (c.d.fact 51 (f := .free "repr") rfl)
  have TX := (txt c).1
  have SM := (txt c).2
  have EK : ∀ x ∈ eks, He.EkC K eks x := fun x hx => He.ek_ok (List.all_eq_true.mp c.k x hx)
  refine fng_bl (k := 0) F scLIsError ?len (fun cdv A outer s H E hr hg => ⟨_, PSs.nox (pss_cons (ps_if (PW.pt (pw_or (pt_not (pt_val (pe_callB (call_isE (K := K) (D := He.oD K) (fI := He.oI K) rfl) (by rfl) mg_isinstance (by decide +kernel) (pa_cons (pv 0) (pa_cons (pe_glob (v := .ref (He.ga K "OweError")) (by rfl) mg_OweError rfl) pa_nil))))) (pw_or1 (pt_not (pt_val (pe_callB (call_isE (K := K) (D := He.oD K) (fI := He.oI K) rfl) (by rfl) mg_isinstance (by decide +kernel) (pa_cons (pv 0) (pa_cons (pe_bltn (v := .ty "ValueError") (by rfl) mg_ValueError (by decide +kernel) rfl) pa_nil))))))))
  (pss_one (ps_ret pe_bl)) pss_nil)
  (pss_one (ps_ret (pe_and (pe_cmpR op_eq (pe_callB (call_reprK (K := K) rfl (by exact hg) (by have := hr.un; show _ < _; exact unOk hr) SM) (by rfl) mg_repr (by decide +kernel) (pa_cons (pe_errW (K := K) (D := He.oD K) (fI := He.oI K) rfl (pv 0)) pa_nil)) (pe_callB (call_reprK (K := K) rfl (by exact hg) (by have := hr.un; show _ < _; exact unOk hr) SM) (by rfl) mg_repr (by decide +kernel) (pa_cons (pv 1) pa_nil)) (nomark _)) (pe_one (pe_cmpR (op_eqQK (K := K) rfl hr.units) (pe_errW (K := K) (D := He.oD K) (fI := He.oI K) rfl (pv 0)) (pv 1) (nomark _))))))), ?_⟩)
  case len => rintro m Ps O ⟨x, d, _, _, rfl, _⟩; rfl
  rintro m Ps O ⟨x, d, hx, hd, rfl, rfl⟩
  have U : OweX.Cls K (He.oD K) (He.oI K) (He.ga K x) := He.err_ok (List.all_eq_true.mp c.e x hx)
  have ek := EK x hx
  have k1 : PySem.W.kitOne K (.ref (He.ga K x)) (.ref (He.ga K "OweError")) = some true := by
    have z := ek.kit "OweError" (by decide)
    rw [z]
    simp
  refine bl_ifR (eb_or (eb_not (eb_tB (ev_cb (S := db K true) (ea_cons (ev_var rfl) (ea_cons ev_val ea_nil)) (cb_isE U ek (.own _) k1)))) fun _ => eb_not (eb_tB (ev_cb (S := db K true) (ea_cons (ev_var rfl) (ea_cons ev_val ea_nil)) (cb_isE U ek (.ty _) ek.ve)))) (fun hb => by cases hb) (fun _ => bl_nextS ?_)
  obtain ⟨s1, s2, s3⟩ := odds_show d hd
  refine bl_ret ((ev_andV (K := K) (a := decide (d.shown = d.shown)) (b := true) (ev_eqS (ev_cb (ea_cons (ev_errW U (ev_var rfl)) ea_nil) (cb_repr (d := d) (fun v G h => h) s1 s2 s3)) (ev_cb (ea_cons (ev_var rfl) ea_nil) (cb_repr (d := d) (fun v G h => h) s1 s2 s3))) (fun _ => ?_)).to fun v G p => by rw [decide_eq_true rfl] at p; exact p) rfl
  rcases odds_kind d hd with ⟨n1, n2, n3⟩ | rfl | rfl
  · exact EvD.to (P := db K (PyData.eqv d d)) (ev_eqQ (K := K) (EvD.ofq (ev_errW U (ev_var rfl)) n1) (EvD.ofq (ev_var rfl) n1) n2 n2) (fun v G p => by rw [n3] at p; exact p)
  · exact ev_eqDict (es := []) (ev_errW U (ev_var rfl)) (ev_var rfl) (by decide)
  · exact ev_eqDict (es := [(0, 0)]) (ev_errW U (ev_var rfl)) (ev_var rfl) (by decide)

end Law

namespace Law
open PySem PySem.Spec PyProof.Rows L2 Nd

def spLaw (K : PySem.W.Frag) : Sp := fun vs H Q _ => ∃ (a : Addr) (ns : List Int), vs = [.ref a] ∧ ns.length ≤ 63 ∧ SqL K H a (ns.map V.int) ∧ ∀ H', Q (.bl true) H'
def dueD (i : Nat) : List PyData := ((List.range 34).filter fun _ => true).map fun (k : Nat) => .bool (decide ((k : Int) = (i : Int)))
theorem none_odds : PyData.none ∈ odds := List.mem_cons_self
theorem marks_due : ∀ i, i < 34 → PyData.eqv (.list (marks (nms.getD i ""))) (.list (dueD i)) = true := by decide +kernel
theorem marks_shape : ∀ i, i < 34 → SeqAt.shaped (.list (marks (nms.getD i ""))) = true ∧ SeqAt.shaped (.list (dueD i)) = true := by decide +kernel
theorem nms_len : nms.length = 34 := by decide
theorem nms_eks : ∀ i, i < 34 → nms.getD i "" ∈ eks := by decide +kernel
theorem errPs_len {K : PySem.W.Frag} {P : Pd} : (errPs K P).length = 34 := by unfold errPs; rw [List.length_map, nms_len]
theorem errPs_get {K : PySem.W.Frag} {P : Pd} {i : Nat} (h : i < 34) : pget (errPs K P) i = errP (He.ga K (nms.getD i "")) P := by
  unfold errPs
  refine pget_map _ ?_
  rw [List.getD_eq_getElem?_getD, List.getElem?_eq_getElem (by rw [nms_len]; exact h)]
  rfl
theorem odds_get {K : PySem.W.Frag} {x : Nat} (h : x < (odds.map (dq K)).length) : ∃ d, d ∈ odds ∧ pget (odds.map (dq K)) x = dq K d := by
  rw [List.length_map] at h
  exact ⟨odds[x], List.getElem_mem h, pget_map _ (List.getElem?_eq_getElem h)⟩
theorem inV_bl : ∀ (bs : List Bool), inV (.bl true) (bs.map V.bl) = bs.any id := by
  intro bs
  unfold inV
  induction bs with
  | nil => rfl
  | cons n ns ih =>
    rw [List.map_cons, List.any_cons, ih, List.any_cons]
    cases n <;> rfl
theorem flat_bl : ∀ (ns : List Bool), (ns.map V.bl).all flatV = true
  | [] => rfl
  | _ :: ns => by rw [List.map_cons, List.all_cons, flat_bl ns]; rfl
theorem dp_bools {K : PySem.W.Frag} {G : Hp} : ∀ {bs : List Bool} {vs : List V}, DpAll K G vs (bs.map PyData.bool) → vs = bs.map V.bl
  | [], _, .nil => rfl
  | b :: bs, _, .cons h t => by cases h; rw [dp_bools t]; rfl
theorem ev_inBL {m : Md} {ta tb : TE} {δ : List (Option Pd)} {K : PySem.W.Frag} {bs : List Bool} (ha : EvD m ta δ (db K true)) (hb : EvD m tb δ (dd K (.list (bs.map PyData.bool)))) : EvD m (tOp (rIn K false) ta tb) δ (db K (bs.any id)) := ev_op ha hb fun x y G H c px py Q q => by
  cases px
  cases py with
  | @lst a vs _ e d =>
    cases dp_bools d
    exact ⟨a, _, rfl, .inl (SqL.mono e c.gh), rfl, flat_bl bs, q _ G H (Go.refl c) (by rw [if_neg Bool.false_ne_true, inV_bl]; exact .bl _)⟩
theorem no_marks : (marksB "OweError").any id = false := by decide +kernel

theorem wk34 {m : Md} {te : TE} {δ : List (Option Pd)} {K : PySem.W.Frag} {n : Nat} (h : EvD m te δ (di K (n : Int))) (hn : n = 34) : WkD m (iRng1 (tCons te tNil)) δ 34 (fun i => di K (i : Int)) := by
  subst hn
  exact wk_rng1 (K := K) (n := ((34 : Nat) : Int)) (ea_cons h ea_nil) (by decide) (by decide)

theorem ok_Law {w : World} {K : PySem.W.Frag} {h : Heap} {mg : Str → Option Value} {base : Heap} {fd : FuncData} (F : FunD K dLaw.name dLaw.qual dLaw.params dLaw.body dLaw.scope (He.DefD.dvs K dLaw) (He.DefD.kws K dLaw) (He.fAd K dLaw.at_) fd) (X : K.In h) (Gm : h.Ns mainGlobals mg) (c : Says K) : FnG PP w K mg base CX0 4 (He.ga K "law") fd ["_law_script"] (spLaw K) := by
  obtain ⟨fdLCell, GLCell, FLCell, kpLCell⟩ := ok_LCell (w := w) (base := base) X Gm c
  have bLCell : Binds K fdLCell ["_law_script", "_law_at"] [] := FLCell.bindsN (ps := ["_law_script", "_law_at"]) fun _ _ _ _ _ _ us hl => match us, hl with | [_, _], _ => rfl
  have mg__law_cell := He.glo_ok X Gm (c.d.fact 0 (f := .glo "_law_cell") rfl)
  obtain ⟨fdLState, GLState, FLState, kpLState⟩ := ok_LState (w := w) (base := base) X Gm c
  have bLState : Binds K fdLState ["_law_cell_here"] [] := FLState.bindsN (ps := ["_law_cell_here"]) fun _ _ _ _ _ _ us hl => match us, hl with | [_], _ => rfl
  have mg__law_state := He.glo_ok X Gm (c.d.fact 1 (f := .glo "_law_state") rfl)
  obtain ⟨fdLStrange, GLStrange, FLStrange, kpLStrange⟩ := ok_LStrange (w := w) (base := base) X Gm c
  have bLStrange : Binds K fdLStrange ["_law_state_here"] [] := FLStrange.bindsN (ps := ["_law_state_here"]) fun _ _ _ _ _ _ us hl => match us, hl with | [_], _ => rfl
  have mg__law_strange := He.glo_ok X Gm (c.d.fact 4 (f := .glo "_law_strange") rfl)
  obtain ⟨fdLPlaced, GLPlaced, FLPlaced, kpLPlaced⟩ := ok_LPlaced (w := w) (base := base) X Gm c
  have bLPlaced : Binds K fdLPlaced ["_law_thing"] [] := FLPlaced.bindsN (ps := ["_law_thing"]) fun _ _ _ _ _ _ us hl => match us, hl with | [_], _ => rfl
  have mg__law_placed := He.glo_ok X Gm (c.d.fact 5 (f := .glo "_law_placed") rfl)
  obtain ⟨fdLNamed, GLNamed, FLNamed, kpLNamed⟩ := ok_LNamed (w := w) (base := base) X Gm c
  have bLNamed : Binds K fdLNamed ["_law_thing"] [] := FLNamed.bindsN (ps := ["_law_thing"]) fun _ _ _ _ _ _ us hl => match us, hl with | [_], _ => rfl
  have mg__law_named := He.glo_ok X Gm (c.d.fact 6 (f := .glo "_law_named") rfl)
  obtain ⟨fdLEmpty, GLEmpty, FLEmpty, kpLEmpty⟩ := ok_LEmpty (w := w) (base := base) X Gm c
  have bLEmpty : Binds K fdLEmpty [] [] := FLEmpty.bindsN (ps := []) fun _ _ _ _ _ _ us hl => match us, hl with | [], _ => rfl
  have mg__law_empty := He.glo_ok X Gm (c.d.fact 7 (f := .glo "_law_empty") rfl)
  obtain ⟨fdLMarks, GLMarks, FLMarks, kpLMarks⟩ := ok_LMarks (w := w) (base := base) X Gm c
  have bLMarks : Binds K fdLMarks ["_law_error"] [] := FLMarks.bindsN (ps := ["_law_error"]) fun _ _ _ _ _ _ us hl => match us, hl with | [_], _ => rfl
  have mg__law_marks := He.glo_ok X Gm (c.d.fact 8 (f := .glo "_law_marks") rfl)
  obtain ⟨fdLIsError, GLIsError, FLIsError, kpLIsError⟩ := ok_LIsError (w := w) (base := base) X Gm c
  have bLIsError : Binds K fdLIsError ["_law_error", "_law_thing"] [] := FLIsError.bindsN (ps := ["_law_error", "_law_thing"]) fun _ _ _ _ _ _ us hl => match us, hl with | [_, _], _ => rfl
  have mg__law_is_error := He.glo_ok X Gm (c.d.fact 9 (f := .glo "_law_is_error") rfl)
  have mg_OweError := He.glo_ok X Gm (c.d.fact 11 (f := .glo "OweError") rfl)
  have mg_len := He.free_ok X Gm (c.d.fact 46 (f := .free "len") rfl)
  have mg_range := He.free_ok X Gm (c.d.fact 49 (f := .free "range") rfl)
  have mg_super := He.free_ok X Gm (c.d.fact 52 (f := .free "super") rfl)
  have TX := (txt c).1
  have SM := (txt c).2
  have EK : ∀ x ∈ eks, He.EkC K eks x := fun x hx => He.ek_ok (List.all_eq_true.mp c.k x hx)
  have UOweError := c.err 0 (x := "OweError") rfl
  refine fng_ok (k := 3) F scLaw ?len (fun cdv A outer s H vs Q E hr hg hsp => ⟨_, PSs.nox (pss_cons (ps_set (i := 1) scLaw.nd rfl (by first | exact Or.inl rfl | exact Or.inr rfl) (pe_call GLState (hr.mono (by decide)) (by rfl) mg__law_state kpLState bLState .nil pass0 (pa_cons (pe_call GLCell (hr.mono (by decide)) (by rfl) mg__law_cell kpLCell bLCell .nil pass0 (pa_cons (pv 0) (pa_cons pe_int pa_nil))) pa_nil)))
  (pss_cons (ps_for PassesOwn.never rfl (pi_range1 (by rfl) mg_range (pa_cons pe_int pa_nil)) (pg_name (i := 2) scLaw.nd rfl (by first | exact Or.inl rfl | exact Or.inr rfl))
  (pss_cons (ps_set (i := 3) scLaw.nd rfl (by first | exact Or.inl rfl | exact Or.inr rfl) (pe_call GLStrange (hr.mono (by decide)) (by rfl) mg__law_strange kpLStrange bLStrange .nil pass0 (pa_cons (pv 1) pa_nil)))
  (pss_cons (ps_set (i := 4) scLaw.nd rfl (by first | exact Or.inl rfl | exact Or.inr rfl) (pe_call GLPlaced (hr.mono (by decide)) (by rfl) mg__law_placed kpLPlaced bLPlaced .nil pass0 (pa_cons (pv 3) pa_nil)))
  (pss_cons (ps_set (i := 5) scLaw.nd rfl (by first | exact Or.inl rfl | exact Or.inr rfl) (pe_call GLNamed (hr.mono (by decide)) (by rfl) mg__law_named kpLNamed bLNamed .nil pass0 (pa_cons (pv 3) pa_nil)))
  (pss_cons (ps_set (i := 6) scLaw.nd rfl (by first | exact Or.inl rfl | exact Or.inr rfl) (pe_call0 GLEmpty (hr.mono (by decide)) (by rfl) mg__law_empty kpLEmpty bLEmpty .nil pass0))
  (pss_cons (ps_for PassesOwn.never rfl (pi_range1 (by rfl) mg_range (pa_cons (pe_callB (call_lenK (K := K) rfl) (by rfl) mg_len PySem.boot_len (pa_cons (pv 4) pa_nil)) pa_nil)) (pg_name (i := 7) scLaw.nd rfl (by first | exact Or.inl rfl | exact Or.inr rfl))
  (pss_cons (ps_if (PW.pt (pw_or (pt_not (pt_val (pe_callg GLIsError (hr.mono (by decide)) (by exact hg) (by rfl) mg__law_is_error kpLIsError bLIsError pass0 (pa_cons (pe_ix (ix_listK (K := K) rfl) (pv 4) (pv 7) (fun _ _ => rfl)) (pa_cons (pv 3) pa_nil))))) (pw_or1 (pt_not (pt_val (pe_callg GLIsError (hr.mono (by decide)) (by exact hg) (by rfl) mg__law_is_error kpLIsError bLIsError pass0 (pa_cons (pe_ix (ix_listK (K := K) rfl) (pv 5) (pv 7) (fun _ _ => rfl)) (pa_cons (pv 3) pa_nil))))))))
  (pss_one (ps_ret pe_bl)) pss_nil)
  (pss_cons (ps_if (pt_not (pt_val (pe_callg GLIsError (hr.mono (by decide)) (by exact hg) (by rfl) mg__law_is_error kpLIsError bLIsError pass0 (pa_cons (pe_ix (ix_listK (K := K) rfl) (pv 6) (pv 7) (fun _ _ => rfl)) (pa_cons pe_non pa_nil)))))
  (pss_one (ps_ret pe_bl)) pss_nil)
  (pss_cons (ps_setLc (i := 8) (own := [("_law_number", 9)]) (g := gName 9) (by rfl) scLaw.nd rfl rfl (sw_true rfl rfl rfl (by decide +kernel)) (pi_range1 (by rfl) mg_range (pa_cons (pe_callB (call_lenK (K := K) rfl) (by rfl) mg_len PySem.boot_len (pa_cons (pv 4) pa_nil)) pa_nil)) (blkOk_by (own := [("_law_number", 9)]) (N := ["_law_script", "_law_state_here", "_law_turn", "_law_thing", "_law_placed_here", "_law_named_here", "_law_empty_here", "_law_at", "_law_due", "_law_number"]) (sc := defScope sLaw) (by decide +kernel)) (fun _ _ _ _ _ => by exact (pg_name (i := 9) scLaw.nd rfl (by first | exact Or.inl rfl | exact Or.inr rfl))) (fun _ _ _ _ _ => by exact pts_nil) (fun _ _ _ _ _ => by exact (pe_cmpR op_eq (pv 9) (pv 7) (nomark _))))
  (pss_one (ps_if (PW.pt (pw_or (pt_cmpR (op_neDK (K := K) rfl hr.units) (pe_call GLMarks (hr.mono (by decide)) (by rfl) mg__law_marks kpLMarks bLMarks .nil pass0 (pa_cons (pe_ix (ix_listK (K := K) rfl) (pv 4) (pv 7) (fun _ _ => rfl)) pa_nil)) (pv 8) (nomark _)) (pw_or (pt_cmpR (op_neDK (K := K) rfl hr.units) (pe_call GLMarks (hr.mono (by decide)) (by rfl) mg__law_marks kpLMarks bLMarks .nil pass0 (pa_cons (pe_ix (ix_listK (K := K) rfl) (pv 5) (pv 7) (fun _ _ => rfl)) pa_nil)) (pv 8) (nomark _)) (pw_or1 (pt_cmpR (op_neDK (K := K) rfl hr.units) (pe_call GLMarks (hr.mono (by decide)) (by rfl) mg__law_marks kpLMarks bLMarks .nil pass0 (pa_cons (pe_ix (ix_listK (K := K) rfl) (pv 6) (pv 7) (fun _ _ => rfl)) pa_nil)) (pv 8) (nomark _))))))
  (pss_one (ps_ret pe_bl)) pss_nil))))))
  (pss_cons (ps_if (PW.pt (pw_or (pt_not (pt_val (pe_callg GLIsError (hr.mono (by decide)) (by exact hg) (by rfl) mg__law_is_error kpLIsError bLIsError pass0 (pa_cons (pe_err TX UOweError mg_OweError mg_super hr (by rfl) (pa_cons (pv 3) pa_nil)) (pa_cons (pv 3) pa_nil))))) (pw_or1 (pt_not (pt_val (pe_callg GLIsError (hr.mono (by decide)) (by exact hg) (by rfl) mg__law_is_error kpLIsError bLIsError pass0 (pa_cons (pe_errK TX UOweError mg_OweError mg_super hr (by rfl) (pk_cons (pv 3) pk_nil)) (pa_cons (pv 3) pa_nil))))))))
  (pss_one (ps_ret pe_bl)) pss_nil)
  (pss_one (ps_if (pt_cmpR (op_inK (K := K) rfl) pe_bl (pe_call GLMarks (hr.mono (by decide)) (by rfl) mg__law_marks kpLMarks bLMarks .nil pass0 (pa_cons (pe_err TX UOweError mg_OweError mg_super hr (by rfl) (pa_cons (pv 3) pa_nil)) pa_nil)) (by rfl))
  (pss_one (ps_ret pe_bl)) pss_nil)))))))))
  (pss_one (ps_ret (pe_callg GLIsError (hr.mono (by decide)) (by exact hg) (by rfl) mg__law_is_error kpLIsError bLIsError pass0 (pa_cons (pe_err0 TX UOweError mg_OweError mg_super hr (by rfl)) (pa_cons pe_non pa_nil))))))), ?_⟩)
  case len => rintro vs H Q E ⟨a, ns, rfl, _⟩; rfl
  obtain ⟨a, ns, rfl, hns, hS, hQ⟩ := hsp
  refine (?_ : Bl pureM E _ [some (dd K (.list (ns.map PyData.int))), none, none, none, none, none, none, none, none, none] { rt := fun R => R = db K true }) _ H H _ ⟨rfl, fun i P e => ?_⟩ ⟨Same.refl H, trivial, fun _ z => z.elim⟩ ⟨fun _ _ _ _ z => z.elim, fun S v G' H2 e g p => ?_, fun _ _ _ _ z => z.elim, fun _ _ _ _ z => z.elim, fun _ _ _ _ _ _ z => z.elim⟩
  rotate_left
  · match i, e with
    | 0, e => cases e; exact ⟨_, rfl, .lst hS (DpAll.ofInts ns)⟩
    | 1, e => cases e
    | 2, e => cases e
    | 3, e => cases e
    | 4, e => cases e
    | 5, e => cases e
    | 6, e => cases e
    | 7, e => cases e
    | 8, e => cases e
    | 9, e => cases e
  · cases e
    cases p
    exact hQ H2
  refine bl_state (K := K) (ea_cons (ev_call (F := FCell K) (S := exI K fun _ => True) (ea_cons (ev_var rfl) (ea_cons ev_int ea_nil)) ⟨ns, 0, rfl, rfl⟩) ea_nil) (fun st nd => ?_)
  have tk := tk_stt nd
  dsimp only [List.set]
  refine bl_for (fun i d => ∃ a2 a3 a4 a5 a6 a7 a8 a9 : Option Pd, d = [some (dd K (.list (ns.map PyData.int))), some (vv (.ref st)), a2, a3, a4, a5, a6, a7, a8, a9])
    (wk_rng1 (K := K) (n := 3) (ea_cons ev_int ea_nil) (by omega) (by omega)) ⟨none, none, none, none, none, none, none, none, rfl⟩ ?_ ?_
  · rintro i _ _ ⟨a2, a3, a4, a5, a6, a7, a8, a9, rfl⟩
    dsimp only [List.set]
    refine bl_setE (ev_call (F := FStrange K) (S := exP (fun i : Nat => i < (odds.map (dq K)).length) (pget (odds.map (dq K)))) (ea_cons (ev_var rfl) ea_nil) ⟨st, tk, rfl, rfl⟩) (fun x hx => ?_)
    obtain ⟨d, hd, ed⟩ := odds_get (K := K) hx
    rw [ed]
    dsimp only [List.set]
    refine bl_set (ev_call (F := FPlaced K) (S := ls (errPs K (dq K d))) (ea_cons (ev_var rfl) ea_nil) ⟨dq K d, rfl, rfl⟩) ?_
    dsimp only [List.set]
    refine bl_set (ev_call (F := FPlaced K) (S := ls (errPs K (dq K d))) (ea_cons (ev_var rfl) ea_nil) ⟨dq K d, rfl, rfl⟩) ?_
    dsimp only [List.set]
    refine bl_set (ev_call (F := FEmpty K) (S := ls (errPs K (dq K .none))) ea_nil ⟨rfl, rfl⟩) ?_
    dsimp only [List.set]
    refine bl_for (fun _ d' => ∃ a7 a8 a9 : Option Pd, d' = [some (dd K (.list (ns.map PyData.int))), some (vv (.ref st)), some (di K (i : Int)), some (dq K d), some (ls (errPs K (dq K d))), some (ls (errPs K (dq K d))), some (ls (errPs K (dq K .none))), a7, a8, a9])
      (wk_rng1 (K := K) (n := ((errPs K (dq K d)).length : Int)) (ea_cons (ev_cb (ea_cons (ev_var rfl) ea_nil) cb_lenLs) ea_nil) (by rw [errPs_len]; decide) (by rw [errPs_len]; decide)) ⟨_, _, _, rfl⟩ ?_ ?_
    · rintro i _ hi0 ⟨a7, a8, a9, rfl⟩
      have hi : i < 34 := by rw [errPs_len] at hi0; simpa using hi0
      dsimp only [List.set]
      refine bl_ifR (eb_or (eb_not (eb_tB (ev_call (F := FIsErr K) (S := db K true) (ea_cons ((ev_lsAt (K := K) (ev_var rfl) (ev_var rfl) (by rw [errPs_len]; exact hi)).to fun v G p => by rw [errPs_get hi] at p; exact p) (ea_cons (ev_var rfl) ea_nil)) ⟨nms.getD i "", d, nms_eks i hi, hd, rfl, rfl⟩))) fun _ => eb_not (eb_tB (ev_call (F := FIsErr K) (S := db K true) (ea_cons ((ev_lsAt (K := K) (ev_var rfl) (ev_var rfl) (by rw [errPs_len]; exact hi)).to fun v G p => by rw [errPs_get hi] at p; exact p) (ea_cons (ev_var rfl) ea_nil)) ⟨nms.getD i "", d, nms_eks i hi, hd, rfl, rfl⟩))) (fun hb => by simp at hb) (fun _ => bl_nextS ?_)
      refine bl_ifR (eb_not (eb_tB (ev_call (F := FIsErr K) (S := db K true) (ea_cons ((ev_lsAt (K := K) (ev_var rfl) (ev_var rfl) (by rw [errPs_len]; exact hi)).to fun v G p => by rw [errPs_get hi] at p; exact p) (ea_cons (ev_non (K := K)).q ea_nil)) ⟨nms.getD i "", .none, nms_eks i hi, none_odds, rfl, rfl⟩))) (fun hb => by simp at hb) (fun _ => bl_nextS ?_)
      refine bl_set (P := dd K (.list (dueD i))) (ev_lc (K := K) (j := 9) (n := 34) (vs := [9]) (b := fun _ => true) (f := fun k => .bool (decide ((k : Int) = (i : Int)))) (wk34 (K := K) (ev_cb (ea_cons (ev_var rfl) ea_nil) (cb_lenLs (Ps := errPs K (dq K d)))) errPs_len) (by decide) (by decide) (fun D o _ k _ => eb_yes) (fun D o _ k _ _ => ev_eqI (K := K) (ev_var rfl) (ev_var rfl))) ?_
      dsimp only [List.set]
      refine bl_if (eb_or (eb_test ((ev_neD (K := K) (ev_call (F := FMarks K) (S := dd K (.list (marks (nms.getD i "")))) (ea_cons ((ev_lsAt (K := K) (ev_var rfl) (ev_var rfl) (by rw [errPs_len]; exact hi)).to fun v G p => by rw [errPs_get hi] at p; exact p) ea_nil) ⟨_, _, nms_eks i hi, rfl, rfl⟩) (ev_var rfl) (marks_shape i hi).1 (marks_shape i hi).2).to fun v G p => by rw [marks_due i hi] at p; exact p)) fun _ => eb_or (eb_test ((ev_neD (K := K) (ev_call (F := FMarks K) (S := dd K (.list (marks (nms.getD i "")))) (ea_cons ((ev_lsAt (K := K) (ev_var rfl) (ev_var rfl) (by rw [errPs_len]; exact hi)).to fun v G p => by rw [errPs_get hi] at p; exact p) ea_nil) ⟨_, _, nms_eks i hi, rfl, rfl⟩) (ev_var rfl) (marks_shape i hi).1 (marks_shape i hi).2).to fun v G p => by rw [marks_due i hi] at p; exact p)) fun _ => eb_test ((ev_neD (K := K) (ev_call (F := FMarks K) (S := dd K (.list (marks (nms.getD i "")))) (ea_cons ((ev_lsAt (K := K) (ev_var rfl) (ev_var rfl) (by rw [errPs_len]; exact hi)).to fun v G p => by rw [errPs_get hi] at p; exact p) ea_nil) ⟨_, _, nms_eks i hi, rfl, rfl⟩) (ev_var rfl) (marks_shape i hi).1 (marks_shape i hi).2).to fun v G p => by rw [marks_due i hi] at p; exact p)) (fun hb => by simp at hb) (fun _ => bl_next ⟨_, _, _, rfl⟩)
    · rintro _ ⟨a7, a8, a9, rfl⟩
      refine bl_ifR (eb_or (eb_not (eb_tB (ev_call (F := FIsErr K) (S := db K true) (ea_cons (ev_err (ea_cons (ev_var rfl) ea_nil)) (ea_cons (ev_var rfl) ea_nil)) ⟨"OweError", d, (by decide), hd, rfl, rfl⟩))) fun _ => eb_not (eb_tB (ev_call (F := FIsErr K) (S := db K true) (ea_cons (ev_err (ea_cons (ev_var rfl) ea_nil)) (ea_cons (ev_var rfl) ea_nil)) ⟨"OweError", d, (by decide), hd, rfl, rfl⟩))) (fun hb => by simp at hb) (fun _ => bl_nextS ?_)
      refine bl_if (eb_test ((ev_inBL (K := K) (bs := marksB "OweError") ev_bl (ev_call (F := FMarks K) (S := dd K (.list (marks "OweError"))) (ea_cons (ev_err (ea_cons (ev_var rfl) ea_nil)) ea_nil) ⟨"OweError", _, by decide, rfl, rfl⟩)).to fun v G p => by rw [no_marks] at p; exact p)) (fun hb => by cases hb) (fun _ => bl_next ⟨_, _, _, _, _, _, _, _, rfl⟩)
  · rintro _ ⟨a2, a3, a4, a5, a6, a7, a8, a9, rfl⟩
    exact bl_ret (ev_call (F := FIsErr K) (S := db K true) (ea_cons (show EvD _ _ _ (errP (He.ga K "OweError") (dq K .none)) from EvD.to (ev_err0 (K := K)) fun v G ⟨e, d, u, h, h1, h2, h3⟩ => ⟨e, d, u, h, h1, h2, Dp.q h3⟩) (ea_cons (ev_non (K := K)).q ea_nil)) ⟨"OweError", .none, (by decide), none_odds, rfl, rfl⟩) rfl

end Law

namespace Law
open PySem PySem.Spec PyProof.Rows L2 Nd
abbrev R : PySem.W.OpenRow := PySem.W.OpenLaw.row PySem.Challenge.rw_neverowing_k01_errors_of_the_package
abbrev hk : PySem.W.Hook := He.hookW 5 fa fn exs ics eks xms PP.main.file ow
def ob (s : PySem.W.SharedT) : He.AlW := He.obsWG 5 fa fn exs ics eks xms PP.main.file (HandSHeadRun.getT s)
theorem ob_eq (s : PySem.W.SharedT) : ob s = hk.obs s.abs := He.obsWG_eq (HandSHeadRun.getT_eq s)
theorem run (w : World) : HandSHeadRun.RunEq R (PySem.W.view R.prog [47]) hk ob 20000 loose w := by
  intro os
  kernel_rfl
end Law

namespace Law
open PySem PySem.Spec PyProof.Rows L2 Nd
theorem law_facts {w : World} {K : PySem.W.Frag} {h : Heap} {mg : Str → Option Value} {f : Addr} (X : K.In h) (G : h.Ns mainGlobals mg) (hfa : mg ("law" : Str) = some (.ref f)) (c : Says K) :
    ∃ fd : FuncData, (∀ (s : Shared) (v : Value), BindsTo s fd ⟨[v], []⟩ [("_law_script", v)]) ∧ ∀ base : Heap, K.In base → base.Ns mainGlobals mg → FnG PP w K mg base CX0 4 f fd ["_law_script"] (spLaw K) := by
  obtain ⟨fd, F⟩ := c.d.def_ 10 (d := dLaw) rfl
  have e := hfa.symm.trans (He.glo_ok X G (c.d.fact 10 (f := .glo "law") rfl))
  cases e
  have b := FunD.bindsA (ps := ["_law_script"]) F fun _ _ _ _ _ _ us hl => match us, hl with | [_], _ => rfl
  exact ⟨fd, fun s v => b s [v] rfl, fun base _ _ => ok_Law F X G c⟩
end Law
open PySem PySem.W PySem.Calls PyProof.Rows
theorem PySem.Challenge.cw_neverowing_k01_errors_of_the_package_holds : PySem.Challenge.rw_neverowing_k01_errors_of_the_package.Holds := by
  w_on; o_law
  refine HandSHeadRun.head_any (r := Law.R) (q := view Law.R.prog [47]) (H := Law.hk) (ob := Law.ob) (M := 20000) (loose := Law.loose) (d := HandSHeadRun.topDef Law.R.prog 47) (kwd := []) Law.ob_eq
    (by kernel_rfl) (fun s => by kernel_rfl) Law.run (by kernel_rfl) (by kernel_rfl) (by kernel_rfl) (by rfl) (by first | assumption | decide +kernel) (by decide +kernel) ⟨rfl, rfl, rfl, rfl, rfl, by decide +kernel⟩ ?hw ?hc
  case hw => w_witness2
  case hc =>
    refine L2.walk_ofG (l := PySem.Challenge.rw_neverowing_k01_errors_of_the_package) (n := 63) (k := 4) (x := "_law_script") (CX := L2.CX0) rfl (by decide) (by kernel_rfl) ⟨rfl, by decide, by decide⟩ ?F (fun _ _ _ _ z => z)
    intro w mg fa h Y G hmg0
    obtain ⟨K, KX, c⟩ := Y
    have hmg : mg ("law" : PySem.Str) = some (.ref fa) := by
      have e : (HandSHeadRun.topDef Law.R.prog 47).name = ("law" : PySem.Str) := by kernel_rfl
      rw [← e]
      exact hmg0
    obtain ⟨fd, hb, hF⟩ := Law.law_facts (w := w) KX G hmg c
    exact ⟨K, fd, Law.spLaw K, KX, hb, fun H a ns hl _ hS => ⟨a, ns, rfl, hl, hS, fun _ => rfl⟩, hF⟩
