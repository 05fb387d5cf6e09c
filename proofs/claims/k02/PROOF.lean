import PyProof.Rows.All
import Wide.All
import OpenK.AllK
import Wide.FinOn
import PyProof.EqAt
import PyProof.EqKinds
import PyProof.TupleCall
import KE.KStateDown
import Lean
import HandS.ForMost
import HandS.TupAny
import HandS.IsInst
import HandS.Flow
import HandS.Style
import HandS.Zip
import HandS.Walk
import HandS.Sort
import HandS.Defaults
import HandS.Head0
import HandS.Head1
import HandS.Head2
import HandS.HeadEnd
import HandS.HeadHook1
import HandS.HeadHook2
import KE.KExcSuper
import KE.KExcMake
import HandS.ExcSuper
import HandS.Ends
import HandS.ExcOwn
import HandS.Lambda
import HandS.MakeKw
import HandS.MakeKwOnly
import KE.KExcIs
import HandS.ExcValue
import HandS.DictComp
import HandS.Wide
import HandS.TupLe
import HandS.Deep
import HandS.Rev
import HandS.Small
import KE.GoesEnum
import HandS.SortInts
import KE.KDictPairs
import HandS.TupMul
import HandS.DictTup
import HandS.SortRule
import HandS.RaiseMore
import HandS.WideBits
import HandS.Strs
import PyProof.ReprLen
import PyProof.NeKinds
import HandS.List
import KE.KOpsOwn
import PySem.Challenge.RW_neverowing_k02_shares_are_fractions
set_option Elab.async false
set_option linter.all false
set_option maxRecDepth 100000
set_option maxHeartbeats 0
namespace Nd
open PySem L2

structure Md where
  chg : Addr → Prop
  dep : Addr → Prop
  inv : Hp → Prop
  sub : ∀ a, chg a → dep a
  mono : ∀ H H', inv H → (∀ a o, dep a → H a = some o → H' a = some o) → inv H'
  has : ∀ H a, inv H → dep a → ∃ o, H a = some o
theorem Md.same {m : Md} {H H' : Hp} (h : m.inv H) (s : Same H H') : m.inv H' := m.mono H H' h fun a o _ e => s a o e
theorem Md.fresh {m : Md} {H : Hp} {a : Addr} (h : m.inv H) (e : H a = none) : ¬ m.dep a := fun d => by
  obtain ⟨o, z⟩ := m.has H a h d
  rw [e] at z; cases z
theorem Md.upd {m : Md} {H : Hp} {a : Addr} {o : HO} (h : m.inv H) (e : ¬ m.dep a) : m.inv (L2.upd H a o) := m.mono H _ h fun b u d q => by
  rw [upd_ne]
  · exact q
  · intro z; subst z; exact e d
def Md.hold (m : Md) (D : Addr) (o : HO) : Md where
  chg := fun a => m.chg a ∨ a = D
  dep := fun a => m.dep a ∨ a = D
  inv := fun H => m.inv H ∧ H D = some o
  sub := fun a h => h.imp (m.sub a) id
  mono := fun H H' h k => ⟨m.mono H H' h.1 fun a o d => k a o (.inl d), k D o (.inr rfl) h.2⟩
  has := fun H a h d => d.elim (fun z => m.has H a h.1 z) fun z => ⟨o, by rw [z]; exact h.2⟩
structure Cn (m : Md) (G H : Hp) : Prop where
  gh : Same G H
  iv : m.inv H
  nm : ∀ a, m.chg a → G a = none
structure Go (m : Md) (G H G' H' : Hp) : Prop where
  gg : Same G G'
  gh : Same G' H'
  fr : ∀ a o, G' a = some o → G a = none → H a = none
  r : ∀ a o, ¬ m.chg a → H a = some o → H' a = some o
  iv : m.inv H'
section
variable {m : Md} {G H G' H' G1 H1 G2 H2 : Hp}
theorem Go.refl (c : Cn m G H) : Go m G H G H := ⟨Same.refl G, c.gh, fun _ _ h n => (by rw [h] at n; cases n), fun _ _ _ h => h, c.iv⟩
theorem Go.dom (t : Go m G H G' H') {a : Addr} (h : H' a = none) : H a = none := by
  cases q : H a with
  | none => rfl
  | some o =>
    by_cases e : m.chg a
    · obtain ⟨o', z⟩ := m.has H' a t.iv (m.sub a e)
      rw [h] at z; cases z
    · rw [t.r a o e q] at h; cases h
theorem Go.trans (t : Go m G H G1 H1) (u : Go m G1 H1 G2 H2) : Go m G H G2 H2 where
  gg := t.gg.trans u.gg
  gh := u.gh
  fr := fun a o h n => by
    cases q : G1 a with
    | none => exact t.dom (u.fr a o h q)
    | some o' => exact t.fr a o' q n
  r := fun a o e h => u.r a o e (t.r a o e h)
  iv := u.iv
theorem Go.cn (t : Go m G H G' H') (c : Cn m G H) : Cn m G' H' where
  gh := t.gh
  iv := t.iv
  nm := fun a e => by
    cases q : G' a with
    | none => rfl
    | some o =>
      have h := t.fr a o q (c.nm a e)
      obtain ⟨o', z⟩ := m.has H a c.iv (m.sub a e)
      rw [h] at z; cases z
theorem Go.new (c : Cn m G H) {p : Addr} {o : HO} (hp : H p = none) : Go m G H (upd G p o) (upd H p o) := by
  have s : Same H (upd H p o) := fun a u e => by rw [upd_ne (ne_of_none e hp)]; exact e
  refine ⟨fun a u e => ?_, fun a u e => ?_, fun a u e n => ?_, fun a u _ e => s a u e, Md.same c.iv s⟩
  · rw [upd_ne (ne_of_none (c.gh a u e) hp)]; exact e
  · by_cases q : a = p
    · subst q; rw [upd_same] at e ⊢; exact e
    · rw [upd_ne q] at e ⊢; exact c.gh a u e
  · by_cases q : a = p
    · subst q; exact hp
    · rw [upd_ne q] at e; rw [e] at n; cases n
theorem Go.unhold {D : Addr} {o : HO} (t : Go (m.hold D o) G H G' H') (c : H D = some o) : Go m G H G' H' where
  gg := t.gg
  gh := t.gh
  fr := t.fr
  r := fun a u e h => by
    by_cases q : a = D
    · subst q
      rw [c] at h; cases h
      exact t.iv.2
    · exact t.r a u (fun z => z.elim e q) h
  iv := t.iv.1
theorem Go.same (c : Cn m G H) (s : Same H H') : Go m G H G H' := ⟨Same.refl G, c.gh.trans s, fun _ _ h n => (by rw [h] at n; cases n), fun a o _ h => s a o h, Md.same c.iv s⟩
end

structure Pd where
  φ : V → Hp → Prop
  mono : ∀ v G G', φ v G → Same G G' → φ v G'
end Nd
namespace L2
open PySem
section
variable {K : PySem.W.Frag}
theorem SqL.mono {G G' : Hp} {a : Addr} {xs : List V} (h : SqL K G a xs) (s : Same G G') : SqL K G' a xs := s.seq h
theorem SqT.mono {G G' : Hp} {a : Addr} {xs : List V} (h : SqT K G a xs) (s : Same G G') : SqT K G' a xs := by
  rcases h with (h | ⟨o, h⟩) | h
  · exact .inl (.inl (s _ _ h))
  · exact .inl (.inr ⟨o, s _ _ h⟩)
  · exact .inr h
mutual
theorem Dp.mono {G G' : Hp} (s : Same G G') : ∀ {v : V} {d : PyData}, Dp K G v d → Dp K G' v d
  | _, _, .non => .non
  | _, _, .bl b => .bl b
  | _, _, .int i => .int i
  | _, _, .str x => .str x
  | _, _, .lst h a => .lst (SqL.mono h s) (DpAll.mono s a)
  | _, _, .tup h a => .tup (SqT.mono h s) (DpAll.mono s a)
theorem DpAll.mono {G G' : Hp} (s : Same G G') : ∀ {vs : List V} {ds : List PyData}, DpAll K G vs ds → DpAll K G' vs ds
  | _, _, .nil => .nil
  | _, _, .cons h t => .cons (Dp.mono s h) (DpAll.mono s t)
end
theorem DpAll.length {G : Hp} : ∀ {vs : List V} {ds : List PyData}, DpAll K G vs ds → vs.length = ds.length
  | _, _, .nil => rfl
  | _, _, .cons _ t => congrArg (· + 1) (DpAll.length t)
theorem DpAll.get {G : Hp} : ∀ {vs : List V} {ds : List PyData} {i : Nat} {d : PyData}, DpAll K G vs ds → ds[i]? = some d → ∃ v, vs[i]? = some v ∧ Dp K G v d
  | _, _, _, _, .nil, e => by simp at e
  | _, _, 0, _, .cons h _, e => by simp at e; subst e; exact ⟨_, rfl, h⟩
  | _, _, i + 1, d, .cons _ t, e => by
    obtain ⟨v, h1, h2⟩ := DpAll.get (i := i) (d := d) t (by simpa using e)
    exact ⟨v, by simpa using h1, h2⟩
theorem DpAll.append {G : Hp} : ∀ {vs ws : List V} {ds es : List PyData}, DpAll K G vs ds → DpAll K G ws es → DpAll K G (vs ++ ws) (ds ++ es)
  | _, _, _, _, .nil, h => h
  | _, _, _, _, .cons a t, h => .cons a (DpAll.append t h)
theorem DpAll.take {G : Hp} : ∀ {vs : List V} {ds : List PyData} (n : Nat), DpAll K G vs ds → DpAll K G (vs.take n) (ds.take n)
  | _, _, 0, _ => .nil
  | _, _, _ + 1, .nil => .nil
  | _, _, n + 1, .cons h t => .cons h (DpAll.take n t)
theorem DpAll.drop {G : Hp} : ∀ {vs : List V} {ds : List PyData} (n : Nat), DpAll K G vs ds → DpAll K G (vs.drop n) (ds.drop n)
  | _, _, 0, h => h
  | _, _, _ + 1, .nil => .nil
  | _, _, n + 1, .cons _ t => DpAll.drop n t
theorem DpAll.ints {G : Hp} : ∀ {vs : List V} {ns : List Int}, DpAll K G vs (ns.map PyData.int) → vs = ns.map V.int
  | _, [], .nil => rfl
  | _, _ :: ns, .cons h t => by
    cases h
    rw [DpAll.ints t]; rfl
end
end L2
namespace Nd
open PySem L2
section
variable (K : PySem.W.Frag)
def dd (d : PyData) : Pd := ⟨fun v G => Dp K G v d, fun _ _ _ h s => Dp.mono s h⟩
abbrev di (i : Int) : Pd := dd K (.int i)
abbrev db (b : Bool) : Pd := dd K (.bool b)
end
def Sl (G : Hp) (σ : L2.St) (δ : List (Option Pd)) : Prop := σ.length = δ.length ∧ ∀ (i : Nat) (P : Pd), δ[i]? = some (some P) → ∃ v, σ[i]? = some (some v) ∧ P.φ v G
section
variable {G G' : Hp} {σ : L2.St} {δ : List (Option Pd)}
theorem Sl.mono (h : Sl G σ δ) (s : Same G G') : Sl G' σ δ := ⟨h.1, fun i P e => let ⟨v, a, b⟩ := h.2 i P e; ⟨v, a, P.mono _ _ _ b s⟩⟩
theorem Sl.set (h : Sl G σ δ) {i : Nat} {v : V} {P : Pd} (p : P.φ v G) : Sl G (σ.set i (some v)) (δ.set i (some P)) := by
  refine ⟨by rw [List.length_set, List.length_set]; exact h.1, fun j R e => ?_⟩
  by_cases hj : i = j
  · subst hj
    by_cases hi : i < δ.length
    · rw [List.getElem?_set_self hi] at e
      cases e
      exact ⟨v, List.getElem?_set_self (by rw [h.1]; exact hi), p⟩
    · rw [List.getElem?_eq_none (by rw [List.length_set]; omega)] at e; cases e
  · rw [List.getElem?_set_ne hj] at e
    obtain ⟨w, a, b⟩ := h.2 j R e
    exact ⟨w, by rw [List.getElem?_set_ne hj]; exact a, b⟩
end

def EvD (m : Md) (te : TE) (δ : List (Option Pd)) (P : Pd) : Prop :=
  ∀ (σ : L2.St) (G H : Hp), Sl G σ δ → Cn m G H → ∀ Q : VK, (∀ v G' H', Go m G H G' H' → P.φ v G' → Q v H') → te σ H Q
def EvB (m : Md) (tt : TT) (δ : List (Option Pd)) (b : Bool) : Prop :=
  ∀ (σ : L2.St) (G H : Hp), Sl G σ δ → Cn m G H → ∀ Q : Bool → Hp → Prop, (∀ G' H', Go m G H G' H' → Q b H') → tt σ H Q
inductive All2 (G : Hp) : List V → List Pd → Prop
  | nil : All2 G [] []
  | cons {v : V} {vs : List V} {P : Pd} {Ps : List Pd} : P.φ v G → All2 G vs Ps → All2 G (v :: vs) (P :: Ps)
theorem All2.mono {G G' : Hp} (s : Same G G') : ∀ {vs : List V} {Ps : List Pd}, All2 G vs Ps → All2 G' vs Ps
  | _, _, .nil => .nil
  | _, P :: _, .cons h t => .cons (P.mono _ _ _ h s) (All2.mono s t)
theorem All2.length {G : Hp} : ∀ {vs : List V} {Ps : List Pd}, All2 G vs Ps → vs.length = Ps.length
  | _, _, .nil => rfl
  | _, _, .cons _ t => congrArg (· + 1) (All2.length t)
section
variable {K : PySem.W.Frag} {m : Md} {δ : List (Option Pd)} {ta tb te : TE} {t u : TT} {P R S : Pd}
theorem EvD.to (h : EvD m te δ P) (e : ∀ v G, P.φ v G → R.φ v G) : EvD m te δ R := fun σ G H s c Q q => h σ G H s c Q fun v G' H' t p => q v G' H' t (e _ _ p)
theorem EvB.to {b b' : Bool} (h : EvB m t δ b) (e : b = b') : EvB m t δ b' := e ▸ h
end
end Nd

namespace Nd
open PySem L2
section
variable {K : PySem.W.Frag} {m : Md} {δ : List (Option Pd)} {ta tb tc te : TE} {t u : TT} {P R S T : Pd}
structure Fl (m : Md) (d : Addr) (v : V) (P : Pd) (G H : Hp) : Prop where
  g : G d = none
  nd : ¬ m.dep d
  at_ : H d = some (.xd [(("what" : Str), v)])
  p : P.φ v G
inductive Oc where
  | ret (S : Pd)
  | exc (C : Addr) (P : Pd)
def Oc.to (m : Md) (G H : Hp) (Q : VK) (E : XK) : Oc → Prop
  | .ret S => ∀ v G' H', Go m G H G' H' → S.φ v G' → Q v H'
  | .exc C P => ∀ d v G' H', Go m G H G' H' → Fl m d v P G' H' → E (.ref C) (some d) H'
def dds (ds : List PyData) : List Pd := ds.map (dd K)
def ndCut {α : Type} (xs : List α) (lo hi : Option Int) : List α := (xs.drop (HT.sIx xs.length 0 lo)).take (HT.sIx xs.length xs.length hi - HT.sIx xs.length 0 lo)
def seqD : PyData → Option (List PyData)
  | .list xs => some xs
  | .tuple xs => some xs
  | _ => none
end
end Nd

namespace Nd
open PySem L2
structure Ou where
  nx : List (Option Pd) → Prop := fun _ => False
  rt : Pd → Prop := fun _ => False
  bk : List (Option Pd) → Prop := fun _ => False
  ct : List (Option Pd) → Prop := fun _ => False
  ex : Addr → Pd → Prop := fun _ _ => False
structure Kx (m : Md) (G H : Hp) (O : Ou) (E : XK) (D : Ends) : Prop where
  nx : ∀ δ' σ' G' H', O.nx δ' → Go m G H G' H' → Sl G' σ' δ' → D.nx σ' H'
  rt : ∀ S v G' H', O.rt S → Go m G H G' H' → S.φ v G' → D.rt v H'
  bk : ∀ δ' σ' G' H', O.bk δ' → Go m G H G' H' → Sl G' σ' δ' → D.bk σ' H'
  ct : ∀ δ' σ' G' H', O.ct δ' → Go m G H G' H' → Sl G' σ' δ' → D.ct σ' H'
  ex : ∀ C P d v G' H', O.ex C P → Go m G H G' H' → Fl m d v P G' H' → E (.ref C) (some d) H'
theorem Kx.go {m : Md} {G H G1 H1 : Hp} {O : Ou} {E : XK} {D : Ends} (k : Kx m G H O E D) (g : Go m G H G1 H1) : Kx m G1 H1 O E D :=
  ⟨fun a b e f x y z => k.nx a b e f x (g.trans y) z, fun a b e f x y z => k.rt a b e f x (g.trans y) z, fun a b e f x y z => k.bk a b e f x (g.trans y) z, fun a b e f x y z => k.ct a b e f x (g.trans y) z,
    fun a b d v e f x y z => k.ex a b d v e f x (g.trans y) z⟩
def Bl (m : Md) (E : XK) (ts : TS) (δ : List (Option Pd)) (O : Ou) : Prop :=
  ∀ (σ : L2.St) (G H : Hp) (D : Ends), Sl G σ δ → Cn m G H → Kx m G H O E D → ts D σ H
section
variable {K : PySem.W.Frag} {m : Md} {E : XK} {δ : List (Option Pd)} {ta tb tc te : TE} {t u : TT} {P R S T : Pd} {t1 t2 : TS} {O : Ou}
def WkD (m : Md) (wi : TI) (δ : List (Option Pd)) (n : Nat) (Y : Nat → Pd) : Prop :=
  ∀ (σ : L2.St) (G H : Hp), Sl G σ δ → Cn m G H → ∀ Q : It → Hp → Prop,
    (∀ J G1 H1, Go m G H G1 H1 → (∃ Gd : Hp → Prop, ∃ Yl : Nat → Hp → V → Hp → Prop, L2.Walk J n Gd Yl ∧ (∀ H', Same G1 H' → Gd H') ∧
      (∀ (m' : Md) i H' x H'' G', i < n → Same G1 G' → Cn m' G' H' → Yl i H' x H'' → ∃ G'', Go m' G' H' G'' H'' ∧ (Y i).φ x G'')) → Q J H1) → wi σ H Q
end
end Nd

namespace Nd
open PySem L2
def wipeD (δ : List (Option Pd)) : List Nat → List (Option Pd)
  | [] => δ
  | v :: vs => (wipeD δ vs).set v none
theorem Sl.setN {G : Hp} {σ : L2.St} {δ : List (Option Pd)} (h : Sl G σ δ) {i : Nat} : Sl G (σ.set i none) (δ.set i none) := by
  refine ⟨by rw [List.length_set, List.length_set]; exact h.1, fun j R e => ?_⟩
  by_cases hj : i = j
  · subst hj
    by_cases hi : i < δ.length
    · rw [List.getElem?_set_self hi] at e; cases e
    · rw [List.getElem?_eq_none (by rw [List.length_set]; omega)] at e; cases e
  · rw [List.getElem?_set_ne hj] at e
    obtain ⟨w, a, b⟩ := h.2 j R e
    exact ⟨w, by rw [List.getElem?_set_ne hj]; exact a, b⟩
theorem Sl.wipe {G : Hp} {σ : L2.St} {δ : List (Option Pd)} (h : Sl G σ δ) : ∀ vs : List Nat, Sl G (wipe σ vs) (wipeD δ vs)
  | [] => h
  | _ :: vs => (Sl.wipe h vs).setN
section
variable {K : PySem.W.Frag} {m : Md} {δ : List (Option Pd)} {ta tb tc te : TE} {t u : TT} {P R S T : Pd}
theorem Cn.hold {G H : Hp} {D : Addr} {o : HO} (c : Cn m G H) (hD : H D = some o) (gD : G D = none) : Cn (m.hold D o) G H := ⟨c.gh, ⟨c.iv, hD⟩, fun a e => e.elim (c.nm a) fun z => by rw [z]; exact gD⟩
theorem Go.out {G H G' H' : Hp} {D : Addr} {o : HO} (g : Go m G H G' H') (gD : G D = none) (hD : H D = some o) : G' D = none := by
  cases q : G' D with
  | none => rfl
  | some u => rw [g.fr D u q gD] at hD; cases hD
end
end Nd

namespace Nd
open PySem L2 PyProof.Rows
section
variable {K : PySem.W.Frag} {m : Md} {E : XK} {δ : List (Option Pd)} {ta tb tc te : TE} {t u : TT} {P R S T : Pd} {t1 t2 : TS} {O : Ou}
def Flds (G : Hp) (fs : List (Str × V)) (ps : List (Str × Pd)) : Prop := ∀ f : Str, match ps.lookup f with
  | some P => ∃ v, fs.lookup f = some v ∧ P.φ v G
  | none => fs.lookup f = none
theorem Flds.mono {G G' : Hp} {fs : List (Str × V)} {ps : List (Str × Pd)} (h : Flds G fs ps) (s : Same G G') : Flds G' fs ps := fun f => by
  have z := h f
  cases e : ps.lookup f with
  | none => rw [e] at z; exact z
  | some P =>
    rw [e] at z
    obtain ⟨v, a, b⟩ := z
    exact ⟨v, a, P.mono _ _ _ b s⟩
def obj (C : Addr) (ps : List (Str × Pd)) : Pd := ⟨fun v G => ∃ a dx fs, v = .ref a ∧ G a = some (.ins C dx fs) ∧ Flds G fs ps, fun _ _ _ ⟨a, dx, fs, e, h, f⟩ s => ⟨a, dx, fs, e, s _ _ h, f.mono s⟩⟩
def Md.opn (m : Md) (D : Addr) : Md where
  chg := fun a => m.chg a ∨ a = D
  dep := fun a => m.dep a ∨ a = D
  inv := fun H => m.inv H ∧ ∃ o, H D = some o
  sub := fun a h => h.imp (m.sub a) id
  mono := fun H H' h k => ⟨m.mono H H' h.1 fun a o d => k a o (.inl d), let ⟨o, e⟩ := h.2; ⟨o, k D o (.inr rfl) e⟩⟩
  has := fun H a h d => d.elim (fun z => m.has H a h.1 z) fun z => let ⟨o, e⟩ := h.2; ⟨o, by rw [z]; exact e⟩
theorem Go.opn {G H G' H' : Hp} {D : Addr} {o : HO} (t : Go (m.hold D o) G H G' H') : Go (m.opn D) G H G' H' := ⟨t.gg, t.gh, t.fr, t.r, t.iv.1, o, t.iv.2⟩
structure Cn1 (m : Md) (C a dx : Addr) (G H : Hp) (ps : List (Str × Pd)) : Prop where
  cn : Cn m G H
  nd : ¬ m.dep a
  ga : G a = none
  ob : ∃ fs, H a = some (.ins C dx fs) ∧ fs.length = ps.length ∧ Flds G fs ps
def putP (f : Str) (P : Pd) : List (Str × Pd) → List (Str × Pd)
  | [] => [(f, P)]
  | (g, x) :: r => if g = f then (g, P) :: r else (g, x) :: putP f P r
theorem lookup_putP (f g : Str) (P : Pd) : ∀ ps : List (Str × Pd), (putP f P ps).lookup g = if g = f then some P else ps.lookup g
  | [] => by
    show List.lookup g [(f, P)] = _
    by_cases h : g = f
    · subst h; simp [List.lookup]
    · have : (g == f) = false := by simpa using h
      simp [List.lookup, this, h]
  | (k, x) :: r => by
    unfold putP
    by_cases hk : k = f
    · subst hk
      rw [if_pos rfl]
      by_cases h : g = k
      · subst h; simp [List.lookup]
      · have : (g == k) = false := by simpa using h
        simp [List.lookup, this, h]
    · rw [if_neg hk]
      by_cases h : g = k
      · subst h
        simp [List.lookup, hk]
      · have e : (g == k) = false := by simpa using h
        have ih := lookup_putP f g P r
        simp only [List.lookup, e]
        exact ih
theorem Flds.put {G : Hp} {fs : List (Str × V)} {ps : List (Str × Pd)} {f : Str} {v : V} {P : Pd} (h : Flds G fs ps) (p : P.φ v G) : Flds G (putF f v fs) (putP f P ps) := fun g => by
  rw [lookup_putP, lookup_putF]
  by_cases e : g = f
  · rw [if_pos e, if_pos e]; exact ⟨v, rfl, p⟩
  · rw [if_neg e, if_neg e]; exact h g
def In (m : Md) (C a dx : Addr) (E : XK) (ts : TS) (δ : List (Option Pd)) (ps fin : List (Str × Pd)) (X : Addr → Pd → Prop) : Prop :=
  ∀ (σ : L2.St) (G H : Hp) (D : Ends), Sl G σ δ → Cn1 m C a dx G H ps → (∀ σ' G' H', Go (m.opn a) G H G' H' → Cn1 m C a dx G' H' fin → D.nx σ' H') →
    (∀ Ce P d v G' H', X Ce P → Go (m.opn a) G H G' H' → Fl m d v P G' H' → E (.ref Ce) (some d) H') → ts D σ H
theorem Cn1.hold {C a dx : Addr} {G H : Hp} {ps : List (Str × Pd)} (c : Cn1 m C a dx G H ps) : ∃ fs, H a = some (.ins C dx fs) ∧ fs.length = ps.length ∧ Flds G fs ps ∧ Cn (m.hold a (.ins C dx fs)) G H := by
  obtain ⟨fs, e, l, f⟩ := c.ob
  exact ⟨fs, e, l, f, c.cn.hold e c.ga⟩
theorem Cn1.go {C a dx : Addr} {G H G' H' : Hp} {ps : List (Str × Pd)} {fs : List (Str × V)} (c : Cn1 m C a dx G H ps) (e : H a = some (.ins C dx fs)) (l : fs.length = ps.length) (f : Flds G fs ps) (g : Go (m.hold a (.ins C dx fs)) G H G' H') : Cn1 m C a dx G' H' ps :=
  ⟨(g.unhold e).cn c.cn, c.nd, (g.unhold e).out c.ga e, fs, g.iv.2, l, f.mono g.gg⟩
inductive Oi where
  | ret (ps : List (Str × Pd))
  | exc (C : Addr) (P : Pd)
def Oi.to (m : Md) (C a dx : Addr) (G H : Hp) (Q : VK) (E : XK) : Oi → Prop
  | .ret ps => ∀ G' H', Go (m.opn a) G H G' H' → Cn1 m C a dx G' H' ps → Q .non H'
  | .exc Ce P => ∀ d v G' H', Go (m.opn a) G H G' H' → Fl m d v P G' H' → E (.ref Ce) (some d) H'
end
end Nd

namespace L2
open PySem PySem.Spec PyProof.Rows
section
variable {X : Cx}
end
end L2

namespace Nd
open PySem L2 PyProof.Rows
section
variable {K : PySem.W.Frag} {m : Md} {E : XK} {δ : List (Option Pd)} {ta tb tc te : TE} {t u : TT} {P R S T : Pd} {t1 t2 : TS} {O : Ou}
def dl (K : PySem.W.Frag) (ds : List PyData) : Pd := ⟨fun v G => ∃ a vs, v = .ref a ∧ G a = some (.lst vs) ∧ DpAll K G vs ds, fun _ _ _ ⟨a, vs, e, h, d⟩ s => ⟨a, vs, e, s _ _ h, DpAll.mono s d⟩⟩
def StrI (H : Hp) (st cl : Addr) : Prop := ∃ (cells : List Int) (i big seed step : Int), H st = some (.lst [.ref cl, .int i, .int big, .int seed, .int step]) ∧ H cl = some (.lst (cells.map V.int)) ∧ 0 ≤ i ∧ 0 ≤ big ∧ 0 ≤ seed ∧ seed < 2147483647
structure Dr (m : Md) (st cl : Addr) : Prop where
  chg : m.chg st
  ne : cl ≠ st
  inv : ∀ H, m.inv H → StrI H st cl
  back : ∀ H H', m.inv H → (∀ a o, a ≠ st → H a = some o → H' a = some o) → StrI H' st cl → m.inv H'
theorem Dr.hold {st cl D : Addr} {o : HO} (d : Dr m st cl) (h : ¬ m.dep D) : Dr (m.hold D o) st cl :=
  ⟨.inl d.chg, d.ne, fun H x => d.inv H x.1, fun H H' x k s => ⟨d.back H H' x.1 k s, k D o (fun z => h (by rw [z]; exact m.sub _ d.chg)) x.2⟩⟩
end
end Nd

namespace L2
open PySem PySem.Spec PyProof.Rows
section
variable {X : Cx} {K : PySem.W.Frag}
theorem ix_listK (h : X.K = K) : IxR X (rIxL K) := h ▸ ix_list
theorem ix_tupK (h : X.K = K) : IxR X (rIxT K) := h ▸ ix_tup
theorem sl_listK (h : X.K = K) : SlR X (rSlL K) := h ▸ sl_list
theorem op_eqDK (h : X.K = K) (hu : X.A.units + 64 < cLine) : OpR X (compareOp .Eq) (rEqD K) := h ▸ op_eqD hu
theorem op_neDK (h : X.K = K) (hu : X.A.units + 64 < cLine) : OpR X (compareOp .NotEq) (rNeD K) := h ▸ op_neD hu
theorem call_lenK (h : X.K = K) : CallR X (.builtin "len") (fun xs H Q => ∃ p ys, xs = [.ref p] ∧ (SqL K H p ys ∨ SqT K H p ys) ∧ Q (.int ys.length) H) := h ▸ call_len_seq
theorem call_isiK' (h : X.K = K) : CallR X (.builtin "isinstance") (rIsi K) := h ▸ call_isi
theorem pe_fldK {e : Expr} {f : Str} {pos : Pos} {ta : TE} (h : X.K = K) (he : PE X e ta) (hb : attributeBase e f X.env (eval e X.env) = eval e X.env) : PE X (.Attribute e f pos) (tFld K ta f) := h ▸ pe_fld he hb
theorem ps_fldK {o value : Expr} {f : Str} {pos pos' : Pos} {ta tv : TE} (h : X.K = K) (ha : PE X o ta) (hv : PE X value tv) (hs : swapsWith value (some (.Attribute o f pos')) pos.line X.env = pure false) : PS X (.Assign [.Attribute o f pos'] value pos) (sFld K ta tv f) := h ▸ ps_fld ha hv hs
theorem pi_listK {tg l : Expr} {tl : TE} (h : X.K = K) (hl : PE X l tl) : PI X tg l (iList K tl) := h ▸ pi_list hl
theorem pi_tupK {tg l : Expr} {tl : TE} (h : X.K = K) (hl : PE X l tl) : PI X tg l (iTup K tl) := h ▸ pi_tup hl
end
end L2
namespace Nd
open PySem L2 PyProof.Rows
end Nd
namespace Nd
open PySem L2 PyProof.Rows
theorem WkD.to {m : Md} {wi : TI} {δ : List (Option Pd)} {n : Nat} {Y Y' : Nat → Pd} (h : WkD m wi δ n Y) (k : ∀ i, i < n → ∀ v G, (Y i).φ v G → (Y' i).φ v G) : WkD m wi δ n Y' := fun σ G H s c Q q =>
  h σ G H s c Q fun J G1 H1 g ⟨Gd, Yl, W, hG, hY⟩ => q J G1 H1 g ⟨Gd, Yl, W, hG, fun m' i H' x H'' G' hi s' c' y => let ⟨G'', g'', p⟩ := hY m' i H' x H'' G' hi s' c' y; ⟨G'', g'', k i hi x G'' p⟩⟩
end Nd

namespace PySem
namespace OweX
open PySem.W PySem.Calls PyProof.Rows PySem.HandSPX
def iA (p1 p2 p3 : Pos) : Arguments := { posonlyargs := [], args := [{ arg := "self", annotation := none, pos := p1 }, { arg := "what", annotation := none, pos := p2 }], vararg := none, kwonlyargs := [], kw_defaults := [], kwarg := none, defaults := [.Constant .none 0 p3] }
def iB (a0 a1 a2 a3 a4 a5 q1 q2 q3 q4 : Pos) : List Stmt :=
  [.Expr (.Call (.Attribute (.Call (.Name "super" a0) [] [] a1) "__init__" a2) [.Name "what" a3] [] a4) a5, .Assign [.Attribute (.Name "self" q1) "what" q2] (.Name "what" q3) q4]
def iS : Scope := { kind := .function, names := [(PySem.Str.ofString "self", .local), (PySem.Str.ofString "what", .local), (PySem.Str.ofString "__class__", .free), (PySem.Str.ofString "super", .globalImplicit)], isGenerator := false, isCoroutine := false, more := [] }
structure Txt (prog : Program) (K : Frag) (D fI : Addr) : Prop where
  fn : ∃ (oc : Value) (od : Option Addr) (dT : Addr) (kV doc pm : Value) (an : Option Addr) (ct : Value) (osl : Array (Option Value)) (cda cc : Addr) (p1 p2 p3 a0 a1 a2 a3 a4 a5 q1 q2 q3 q4 : Pos),
    K.lookup fI = some ⟨oc, od, .func (ksFn "__init__" "OweError.__init__" (iA p1 p2 p3) (iB a0 a1 a2 a3 a4 a5 q1 q2 q3 q4) iS (.ref dT) kV doc pm an (.ref cda) ct cc), osl⟩ ∧ codeIn K (.ref cda) "OweError.__init__" = true ∧
    (∃ (ccl : Value) (cdd : Option Addr) (vs : Array Value) (ccs : Array (Option Value)) (file : Str) (tf : Tok), K.lookup cda = some ⟨ccl, cdd, .fields vs, ccs⟩ ∧ vs[2]? = some (.str file tf) ∧ ((prog.main.file : Str) == file) = true) ∧
    (∃ (cl : Value) (cld : Option Addr) (csl : Array (Option Value)), K.lookup cc = some ⟨cl, cld, .cell (some (.ref D)), csl⟩) ∧
    (∃ (o : Obj) (n : Nat), K.lookup dT = some o ∧ o.data = .seq #[.none] n) ∧ (a2.endLine == a4.line) = true
  tI : typeIn K (.ref fI) = some (.type "function")
  clD : ∃ cd, clsIn K D = some cd
  third : nsIn K cStatics "thirdparty.any" = some none
  top : (prog.main.scope.names.lookup ("super" : Str)).isSome = false
structure Cls (K : Frag) (D fI C : Addr) : Prop where
  cls : ∃ nm q N bs bm sn sub ab col dd k0 k1 k2 k3 k5, K.lookup C = some (excClassObj nm q C N bs bm true sn sub ab col dd k0 k1 k2 k3 k5 "ValueError.__new__") ∧ refsVE bm = true
  sa : findIn K (.ref C) "__setattr__" = some (some (.builtin "object.__setattr__"))
  ga : findIn K (.ref C) "__getattribute__" = some (some (.builtin "BaseException.__getattribute__"))
  gg : findIn K (.ref C) "__getattr__" = some none
  noN : findIn K (.ref C) "what" = some none
  iC : findIn K (.ref C) "__init__" = some (some (.ref fI))
  kC : keepIn K (.ref C) = true
  exC : subIn K (.ref C) (.type "BaseException") = some true
  vC : subIn K (.ref C) (.type "ValueError") = some true
  tyC : typeIn K (.ref C) = some (.type "type")
  hdC : hasDictIn K C = true
  sD : mroIn K C (.ref D) = some true
  sI : ks_superIn K C D "__init__" = some (some (.builtin "ValueError.__init__"))
theorem he_super {a0 a1 a2 a3 a4 : Pos} {env : Env} (hl : (a2.endLine == a4.line) = true) : eval (.Call (.Attribute (.Call (.Name "super" a0) [] [] a1) "__init__" a2) [.Name "what" a3] [] a4) env = (do
      let ov ← attributeBase (.Call (.Name "super" a0) [] [] a1) "__init__" env (eval (.Call (.Name "super" a0) [] [] a1) env)
      standAt a2.atName
      let (f, first) ← holding [ov] (getMethod ov "__init__" (do return (← importBound (.Call (.Name "super" a0) [] [] a1) env).getD true))
      callWith a4 f first (backTo a4 (starEach [.Name "what" a3] env)) []) := by
  have e : methodCallPos true (.Call (.Name "super" a0) [] [] a1) env a2 a4 = pure a4 := by
    unfold methodCallPos
    rw [hl]
    rfl
  have e2 : eval (.Call (.Attribute (.Call (.Name "super" a0) [] [] a1) "__init__" a2) [.Name "what" a3] [] a4) env = (do
      let ov ← attributeBase (.Call (.Name "super" a0) [] [] a1) "__init__" env (eval (.Call (.Name "super" a0) [] [] a1) env)
      standAt a2.atName
      let (f, first) ← holding [ov] (getMethod ov "__init__" (do return (← importBound (.Call (.Name "super" a0) [] [] a1) env).getD true))
      let callPos ← methodCallPos true (.Call (.Name "super" a0) [] [] a1) env a2 a4
      callWith callPos f first (backTo a4 (starEach [.Name "what" a3] env)) []) := by rfl
  rw [e2, e]
  simp only [pure_bind]
theorem one_size (v : Value) : [v].length ≤ sizeLine := by
  rw [sizeLine_eq]
  exact (by decide : 1 ≤ 16777216)
theorem kept_but {K : Frag} {h h' : Heap} {x : Addr} (X : K.In h) (hx : K.lookup x = none) (k : ∀ b o, b ≠ x → h.get? b = some o → h'.get? b = some o) : K.In h' := fun a o e =>
  k a o (fun z => by rw [z, hx] at e; cases e) (X a o e)
structure InitEnd (h h' : Heap) (x C dx : Addr) (v : Value) : Prop where
  keep : ∀ b o, b ≠ x → h.get? b = some o → h'.get? b = some o
  obj : ∃ t1, h'.get? x = some { cls := .ref C, dict := some dx, data := .fields #[.ref t1, .none, .none, .none, .bool false, .none] }
  dbig : h.objs.size ≤ dx
  dne : dx ≠ x
  ns : h'.Ns1 dx (fun y => if y = "what" then some v else none)
structure OwnMade (h h' : Heap) (e C d : Addr) (v : Value) : Prop where
  keep : ∀ b o, h.get? b = some o → h'.get? b = some o
  new : h.objs.size ≤ e
  obj : ∃ t1, h'.get? e = some { cls := .ref C, dict := some d, data := .fields #[.ref t1, .none, .none, .none, .bool false, .none] }
  dbig : h.objs.size ≤ d
  dne : d ≠ e
  ns : h'.Ns1 d (fun y => if y = "what" then some v else none)
section
variable {prog : Program} {w : World} {A : Around} {E : Value → Shared → Prop} {R : Result → Shared → Prop} {s : Shared} {K : Frag} {mg : Str → Option Value} {D C fI : Addr} {base : Heap}
theorem exc_super_init {u x C t0 : Addr} {rest : List Value} {h : Heap} {g : Array GenState} {d : Drawn} {tk : Nat} {os : OsState} {Q : Value → Shared → Prop} {nm q : Str} {N : Addr} {bs bm : List Value} {hdct : Bool} {sn : List Str} {sub : List Value} {ab : Bool} {col : Option Bool} {dd : Option Addr} {k0 k1 k2 k3 k5 : Option Value}
    (hC : h.get? C = some (excClassObj nm q C N bs bm hdct sn sub ab col dd k0 k1 k2 k3 k5 "ValueError.__new__")) (he : h.get? x = some (excO C t0)) (hu : h.get? u = some (kxs_mw "ValueError.__init__" x)) (hrest : rest.length ≤ sizeLine)
    (hq : ∀ h' t1, (∀ b o, b ≠ x → h.get? b = some o → h'.get? b = some o) → h'.get? x = some (excO C t1) → Q .none ⟨h', g, d, tk, os⟩) :
    wpAny (model prog w) A (call (.ref u) rest) Q E ⟨h, g, d, tk, os⟩ := by
  refine wpAny_call (codeAny_of_tree ?_)
  show wpAny _ A.in1 (callAny (.ref u) ⟨rest, []⟩) _ _ _
  simp only [callAny]
  refine wpAny_bind (wpAny_load hu ?_)
  simp only [kxs_mw, show (Value.type "method-wrapper" == Value.type "method" || Value.type "method-wrapper" == Value.type "builtin_function_or_method" || Value.type "method-wrapper" == Value.type "method-wrapper") = true by decide, if_true]
  refine KFB.if_so (by decide) ?_
  refine wpAny_bind (check_bound_init F.excBase_ValueError.toExcCallFacts hC he rfl ?_)
  refine wpAny_bind (wpAny_pure (wpAny_pure ?_))
  refine ⟨plainId_quiet F.excBase_ValueError.init.plain _, codeAny_builtin F.excBase_ValueError.initEntry ?_⟩
  exact exc_init_tree (cls := .ref C) (t0 := t0) (dv := none) (c2 := .none) (c3 := .none) (b4 := .bool false) he hrest fun h' k e' t' => hq h' _ k e'
theorem owe_init (T : Txt prog K D fI) (U : Cls K D fI C) (M : L2.Mod K mg base) (hsup : mg "super" = none) {x t0 : Addr} {v : Value} {args : Args} (kb : ∀ b o, base.get? b = some o → s.heap.get? b = some o)
    (hx : s.heap.get? x = some (excO C t0)) (hnx : base.get? x = none) (hroom : A.depth < recursionLimit)
    (hb : ∀ fd, (∃ (dT : Addr) (kV doc pm : Value) (an : Option Addr) (ct : Value) (cda cc : Addr) (p1 p2 p3 a0 a1 a2 a3 a4 a5 q1 q2 q3 q4 : Pos) (o : Obj) (n : Nat), fd = ksFn "__init__" "OweError.__init__" (iA p1 p2 p3) (iB a0 a1 a2 a3 a4 a5 q1 q2 q3 q4) iS (.ref dT) kV doc pm an (.ref cda) ct cc ∧ K.lookup dT = some o ∧ o.data = .seq #[.none] n) →
      BindsTo s fd args [("self", .ref x), ("what", v)])
    (hq : ∀ h' tk dx, InitEnd s.heap h' x C dx v → R (.ok (.ret .none)) { s with heap := h', toks := tk }) :
    codeAny (model prog w) A (.call (.ref fI) args) R s := by
  obtain ⟨oc, od, dT, kV, doc, pm, an, ct, osl, cda, cc, p1, p2, p3, a0, a1, a2, a3, a4, a5, q1, q2, q3, q4, ho, hcd, ⟨ccl, cdd, vs, ccs, file, tf, hcode, hvs, hfile⟩, ⟨cl, cld, csl, hcell⟩, ⟨oT, n, lT, dTt⟩, hl⟩ := T.fn
  obtain ⟨nm, q, N, bs, bm, sn, sub, ab, col, dd, k0, k1, k2, k3, k5, hC, hbm⟩ := U.cls
  have X : K.In s.heap := M.kin.keeps kb
  have hcl : clsIn K C = some { name := nm, bases := bs, mro := .ref C :: bm, ns := N, qualname := q, hasDict := true, slotNames := sn, subclasses := sub, abstract := ab, collection := col, hasDel := false } := by unfold clsIn; rw [hC] <;> rfl
  have hbind := hb _ ⟨dT, kV, doc, pm, an, ct, cda, cc, p1, p2, p3, a0, a1, a2, a3, a4, a5, q1, q2, q3, q4, oT, n, rfl, lT, dTt⟩
  obtain ⟨mb, hmb1, hmb2⟩ := M.blt
  obtain ⟨cdD, hD⟩ := T.clD
  refine ks_codeAny_call_defAt (fd := ksFn "__init__" "OweError.__init__" (iA p1 p2 p3) (iB a0 a1 a2 a3 a4 a5 q1 q2 q3 q4) iS (.ref dT) kV doc pm an (.ref cda) ct cc) (body := iB a0 a1 a2 a3 a4 a5 q1 q2 q3 q4) hroom (X _ _ ho) rfl (M.nolimit.keeps kb) (codeRec_of X hcd) rfl hbind (show ∀ x ∈ iS.names, x.2 ≠ .cell by decide) (fun y hy => by rcases List.mem_cons.mp hy with e | e; (rw [e]; rfl); (rcases List.mem_cons.mp e with e | e; (rw [e]; rfl); cases e)) (fun h₁ hn k => ?_)
  have kb₁ : ∀ b o, base.get? b = some o → h₁.get? b = some o := fun b o e => k b o (kb b o e)
  have X₁ : K.In h₁ := M.kin.keeps kb₁
  have hx₁ := k _ _ hx
  have hxL : s.heap.objs.size ≠ x := Nat.ne_of_gt (Heap.lt_size hx)
  have hnK : K.lookup x = none := by
    cases e : K.lookup x with
    | none => rfl
    | some o => rw [M.kin _ _ e] at hnx; cases hnx
  have I₁ : InstAt h₁ x (excO C t0) C none := ⟨hx₁, rfl, rfl, trivial⟩
  obtain ⟨oD, hD1, hD2⟩ : ∃ oD, h₁.get? D = some oD ∧ oD.data = .cls cdD := by
    unfold clsIn at hD
    split at hD
    · rename_i c d cd' sl ho
      cases hD
      exact ⟨_, X₁ _ _ ho, rfl⟩
    · cases hD
  obtain ⟨hp, g, d, t, os⟩ := s
  show wpAt _ _ _ (execs (iB a0 a1 a2 a3 a4 a5 q1 q2 q3 q4) (ksEnv "OweError.__init__" iS hp.objs.size fI (.ref cda) cc)) _ _ _
  refine ks_wpAt_execs_cons (ks_wpAt_Expr_any (ks_wpAt_MethodCall (pl := (do return (← importBound (.Call (.Name "super" a0) [] [] a1) (ksEnv "OweError.__init__" iS hp.objs.size fI (.ref cda) cc)).getD true)) ?_ (he_super hl)))
  refine ks_wpAt_super_base (env := ksEnv "OweError.__init__" iS hp.objs.size fI (.ref cda) cc) (ar := { arg := "self", annotation := none, pos := p1 }) rfl rfl (by decide) rfl (X₁ _ _ ho) rfl rfl rfl (X₁ _ _ hcode) rfl hvs hfile T.top ?_
  refine ks_loadName_global rfl rfl (loadGlobal_builtin (env := ksEnv "OweError.__init__" iS hp.objs.size fI (.ref cda) cc) (M.glob.keeps kb₁) hsup (hmb1.keeps kb₁) ((hmb2 _ (by decide)).trans (by kernel_rfl : bootBuiltins "super" = some (.type "super"))) ⟨rfl, ?_⟩)
  refine wpAny_loadName_free rfl rfl rfl ⟨_, X₁ _ _ hcell, rfl⟩ ?_
  refine wpAny_loadName_local rfl rfl hn (by first | rfl | kernel_rfl) ?_
  refine ks_wpAny_isType_cls hD1 hD2 ⟨rfl, ?_⟩
  refine ks_wpAny_call_super hD1 hD2 I₁.at_ I₁.cls (fun c e => by cases e) (looks_mroIn X₁ U.sD) (fun h₂ e₂ k₂ => ?_)
  have kb₂ : ∀ b o, base.get? b = some o → h₂.get? b = some o := fun b o e => k₂ b o (kb₁ b o e)
  have X₂ : K.In h₂ := M.kin.keeps kb₂
  have hx₂ := k₂ _ _ hx₁
  have I₂ : InstAt h₂ x (excO C t0) C none := ⟨hx₂, rfl, rfl, trivial⟩
  have hxC : x ≠ C := ks_ne X₂ I₂ hcl
  have hm := U.sI
  unfold ks_superIn at hm
  rw [hcl] at hm
  refine kxs_getMethod (pl := _) kxs_ValueError e₂ (looks_opaque X₂ T.third) (fun A Q E s k q => wpAny_bind ((looks_clsIn X₂ hcl) A _ E s k (wpAny_pure q))) rfl X₂ hm (I₂.type.andThen (looks_subIn X₂ U.vC)) hxC (by decide) ?_
  have hs₂ : h₂.objs.size ≠ x := Nat.ne_of_gt (Heap.lt_size hx₂)
  have hu : (h₂.push (kxs_mw "ValueError.__init__" x)).get? h₂.objs.size = some (kxs_mw "ValueError.__init__" x) := Heap.get?_push_at rfl rfl
  have k₃ : ∀ b o, h₂.get? b = some o → (h₂.push (kxs_mw "ValueError.__init__" x)).get? b = some o := fun b o e => Heap.get?_push_of_some _ e
  have hn₂ : (h₂.push (kxs_mw "ValueError.__init__" x)).Ns hp.objs.size (fun y => [(("self" : Str), Value.ref x), ("what", v)].reverse.lookup y) := by
    obtain ⟨oL, es, ep, hL, r⟩ := hn
    exact ⟨oL, es, ep, k₃ _ _ (k₂ _ _ hL), r⟩
  refine kxs_callWith (i := "ValueError.__init__") (x := x) (by rfl) ?_
  refine evalArgs_plain (spliced_cons ?_)
  refine ESX.ldL (v := v) hn₂ (by first | rfl | with_unfolding_all rfl | kernel_rfl) (spliced_nil ⟨hu, ?_⟩)
  refine exc_super_init (X₂.keeps k₃ _ _ hC) (k₃ _ _ hx₂) hu (one_size v) fun h₄ t1 k₄ hx₄ => ?_
  -- self.what = what
  show wpAt _ _ _ (execs [Stmt.Assign [.Attribute (.Name "self" q1) "what" q2] (.Name "what" q3) q4] (ksEnv "OweError.__init__" iS hp.objs.size fI (.ref cda) cc)) _ _ _
  have hn₄ : h₄.Ns hp.objs.size (fun y => [(("self" : Str), Value.ref x), ("what", v)].reverse.lookup y) := by
    obtain ⟨oL, es, ep, hL, r⟩ := hn₂
    exact ⟨oL, es, ep, k₄ _ _ hxL hL, r⟩
  have X₄ : K.In h₄ := kept_but (X₂.keeps k₃) hnK k₄
  refine ks_wpAt_execs_cons (ks_wpAt_Assign_Attr ?_)
  refine wpAt_of_wpAny (ESX.ldL (v := v) hn₄ (by first | rfl | with_unfolding_all rfl | kernel_rfl) (ESX.ldL (v := .ref x) hn₄ (by first | rfl | with_unfolding_all rfl | kernel_rfl) ?_))
  refine set_plain X₄ (ox := excO C t1) (od := none) ⟨hx₄, rfl, rfl, trivial⟩ U.sa ?_
  refine exc_osa X₄ hx₄ hcl (show refsVE (.ref C :: bm) = true from hbm) rfl U.noN (fun h₅ tk₅ dx k₅ dn dne hx₅ hn₅ => ?_)
  show wpAt _ _ _ (execs [] _) _ _ _
  have z : hp.objs.size < h₄.objs.size := hn₄.lt
  refine wpAt_of_wpAny (wpAny_execs_nil (hq h₅ tk₅ dx ⟨fun b o hb e => k₅ b o hb (k₄ b o hb (k₃ b o (k₂ b o (k b o e)))), ⟨_, hx₅⟩, Nat.le_of_lt (Nat.lt_of_lt_of_le z dn), dne, hn₅⟩))
theorem owe_made (T : Txt prog K D fI) (U : Cls K D fI C) (M : L2.Mod K mg base) (hsup : mg "super" = none) {v : Value} (kb : ∀ b o, base.get? b = some o → s.heap.get? b = some o) (hroom : A.depth + 1 < recursionLimit)
    (hq : ∀ h' tk e d, OwnMade s.heap h' e C d v → R (.ok (.ret (.ref e))) { s with heap := h', toks := tk }) :
    codeAny (model prog w) A (.call (.ref C) ⟨[v], []⟩) R s := by
  obtain ⟨nm, q, N, bs, bm, sn, sub, ab, col, dd, k0, k1, k2, k3, k5, hC, hbm⟩ := U.cls
  obtain ⟨hp, g, dr, tk, os⟩ := s
  have X : K.In hp := M.kin.keeps kb
  have k : ∀ b o, hp.get? b = some o → ((hp.push (kdv_tup [v])).push (excO C hp.objs.size)).get? b = some o := fun b o e => Heap.get?_push_of_some _ (Heap.get?_push_of_some _ e)
  have hget : ((hp.push (kdv_tup [v])).push (excO C hp.objs.size)).get? (hp.objs.size + 1) = some (excO C hp.objs.size) := by heap_get
  have hnx : base.get? (hp.objs.size + 1) = none := by
    cases e : base.get? (hp.objs.size + 1) with
    | none => rfl
    | some o =>
      have z : hp.get? (hp.objs.size + 1) = some o := kb _ _ e
      exact absurd (Nat.lt_of_succ_lt (Heap.lt_size z)) (Nat.lt_irrefl _)
  refine call_own F.excBase_ValueError (fun X => refsVE_contains X bm hbm) (X _ _ hC) (looks_findIn X U.iC) (fun self => bind_fn X self T.tI) (one_size v) ?_
  refine owe_init (s := ⟨(hp.push (kdv_tup [v])).push (excO C hp.objs.size), g, dr, tk, os⟩) (v := v) T U M hsup (fun b o e => k b o (kb b o e)) hget hnx ?_ ?_ fun h' tk' dx ⟨k', hx, dn, dne, hns⟩ => ?_
  · show A.depth + 1 < recursionLimit
    exact hroom
  · rintro fd ⟨dT, kV, doc, pm, an, ct, cda, cc, p1, p2, p3, a0, a1, a2, a3, a4, a5, q1, q2, q3, q4, o, n, rfl, lT, dTt⟩
    obtain ⟨kk, e1, e2⟩ : ∃ kk, bindArgs (ksFn "__init__" "OweError.__init__" (iA p1 p2 p3) (iB a0 a1 a2 a3 a4 a5 q1 q2 q3 q4) iS (.ref dT) kV doc pm an (.ref cda) ct cc) ⟨[.ref (hp.objs.size + 1), v], []⟩ = seqItems? (.ref dT) >>= kk ∧ kk (some #[.none]) = pure [(("self" : Str), .ref (hp.objs.size + 1)), ("what", v)] := ⟨_, rfl, rfl⟩
    refine L2.BindsTo.of_looks fun M => ?_
    rw [e1]
    exact L2.looks_items (X.keeps k) lT dTt (.of_pure e2)
  · have old : ∀ b o, hp.get? b = some o → h'.get? b = some o := fun b o e => k' b o (Nat.ne_of_lt (Nat.lt_succ_of_lt (Heap.lt_size e))) (k b o e)
    have z : hp.objs.size + 1 + 1 ≤ dx := by
      first
        | (simpa only [Heap.size_push] using dn)
        | exact dn
        | (have q := dn; rw [Heap.size_push, Heap.size_push] at q; exact q)
    exact ⟨rfl, hq h' tk' (hp.objs.size + 1) dx ⟨old, Nat.le_succ _, hx, Nat.le_trans (Nat.le_trans (Nat.le_succ _) (Nat.le_succ _)) z, dne, hns⟩⟩
end
end OweX
end PySem

namespace L2
open PySem PySem.Spec PyProof.Rows
theorem relO_what {v : V} {v' : Value} (r : RelV v v') (f : Str) : RelO (List.lookup f [(("what" : Str), v)]) (if f = "what" then some v' else none) := by
  by_cases hw : f = "what"
  · subst hw
    rw [if_pos rfl]
    have q : List.lookup ("what" : Str) [(("what" : Str), v)] = some v := by simp [List.lookup]
    rw [q]
    exact r
  · rw [if_neg hw]
    have qw : (f == ("what" : Str)) = false := by simpa using hw
    have q2 : List.lookup f [(("what" : Str), v)] = none := by simp [List.lookup, qw]
    rw [q2]
    trivial
section
variable {X : Cx} {D C fI : Addr} {x : Str}
def tMkOwe (C : Addr) (ta : TA) : St → Hp → XK → Prop := fun σ H Q => ta σ H fun vs H1 => ∃ v, vs = [v] ∧ ∀ d, H1 d = none → Q (.ref C) (some d) (upd H1 d (.xd [(("what" : Str), v)]))
theorem pmk_owe {a : Expr} {ta : TA} {p pos : Pos} {k : Nat} (T : PySem.OweX.Txt X.prog X.K D fI) (U : PySem.OweX.Cls X.K D fI C) (hm : X.mg x = some (.ref C)) (hsup : X.mg "super" = none) (hr : Room k X.A) (ha : PA X [a] ta) (hg : Gl X x)
    (hdb : (x == ("__debug__" : Str)) = false := by decide) (he : starEach (a :: []) X.env = (false, eval a X.env) :: starEach [] X.env := by rfl) (hpl : (backTo pos (starEach [] X.env)).any (·.1) = false := by rfl) :
    PMk X (.Call (.Name x p) [a] [] pos) (tMkOwe C ta) := by
  intro pins s σ H Q I h
  refine wpAny_Call_Name_kw (ld_glob I hg hm ?_ hdb)
  refine PySem.W.callWith_K (h₀ := X.base) I.ok.mod.kin U.kC (thn (ha.run pos pins s σ H _ I h) fun us s1 hh => ?_) he hpl
  obtain ⟨vs, H1, I1, r1, v, ev, q1⟩ := hh
  subst ev
  refine ⟨I1.kIn, ?_⟩
  cases r1 with
  | cons rv rn =>
    rename_i v' us'
    cases rn
    show wpAny _ _ (call (.ref C) [v']) _ _ _
    have bk := I1.bk
    obtain ⟨hp, g, dr, tk, os⟩ := s1
    refine wpAny_call (PySem.OweX.owe_made T U I1.ok.mod hsup bk (by have := hr.dp; omega) fun h' tk' e d M => ?_)
    show MkP X pins σ Q (.ref e) ⟨h', g, dr, tk', os⟩
    obtain ⟨t1, hoe⟩ := M.obj
    have hns := M.ns
    obtain ⟨G', g1, g2⟩ := restrict h' fun b => decide (b ≠ e)
    have gk : ∀ b, b ≠ e → G'.get? b = h'.get? b := fun b hb => g1 b (decide_eq_true hb)
    have ge : G'.get? e = none := g2 e (by simp)
    have old : ∀ b o, hp.get? b = some o → G'.get? b = some o := fun b o q => (gk b (Nat.ne_of_lt (Nat.lt_of_lt_of_le (Heap.lt_size q) M.new))).trans (M.keep b o q)
    have ob : ObjOk X.prog X.w (upd H1 d (.xd [(("what" : Str), v)])) G' d (.xd [(("what" : Str), v)]) :=
      ⟨_, hns.at (fun o q => (gk d M.dne).trans q), fun f => relO_what rv f⟩
    have J : Inv X pins σ (upd H1 d (.xd [(("what" : Str), v)])) ⟨G', g, dr, tk', os⟩ := I1.laid (t' := tk') old M.dbig ob
    refine ⟨e, _, _, ⟨G', g, dr, tk', os⟩, _, .ref C, some d, rfl, J, fun b o q => ?_, ge, hoe, ⟨rfl, rfl⟩, rfl, rfl, ?_, rfl, I1.bare, raises_own U.exC U.tyC, q1 d (I1.hok.fresh M.dbig)⟩
    · by_cases hb : b = e
      · have q' : G'.get? b = some o := q
        rw [hb, ge] at q'; cases q'
      · exact (gk b hb).symm.trans q
    · rw [upd_ne (Ne.symm M.dne)]
      exact I1.hok.fresh M.new
def tRaiseOwe (C : Addr) (W : WX) (ta : TA) : TS := fun _ σ H => tMkOwe C ta σ H fun cls d H' => W cls d σ H'
theorem ps_raiseOwe {a : Expr} {ta : TA} {W : WX} {p pos pos2 : Pos} {k : Nat} (hc : X.calm = true) (T : PySem.OweX.Txt X.prog X.K D fI) (U : PySem.OweX.Cls X.K D fI C) (hm : X.mg x = some (.ref C)) (hsup : X.mg "super" = none) (hr : Room k X.A) (tk : Takes X W) (ha : PA X [a] ta) (hg : Gl X x)
    (hdb : (x == ("__debug__" : Str)) = false := by decide) (he : starEach (a :: []) X.env = (false, eval a X.env) :: starEach [] X.env := by rfl) (hpl : (backTo pos (starEach [] X.env)).any (·.1) = false := by rfl) :
    PS X (.Raise (some (.Call (.Name x p) [a] [] pos)) none pos2) (tRaiseOwe C W ta) := ps_raise hc tk (pmk_owe T U hm hsup hr ha hg hdb he hpl)
end
end L2

namespace L2
open PySem PySem.Spec PyProof.Rows
structure FnG (P : Program) (w : World) (K : PySem.W.Frag) (mg : Str → Option Value) (base : Heap) (CX : CXT) (k : Nat) (f : Addr) (fd : FuncData) (ps : List Str) (sp : Sp) : Prop where
  len : ∀ vs H Q E, sp vs H Q E → vs.length = ps.length
  run : ∀ (A : Around) (outer : List Env) (s : Shared) (H : Hp) (args : Args) (us : List Value) (vs : List V) (Q : VK) (E : XK), Room k A → A.guards = some [] → Env0 P w K mg base A outer s H → BindsTo s fd args (ps.zip us) → Vals vs us → sp vs H Q E →
    codeAny (model P w) A (.call (.ref f) args) (CR CX outer P w H s Q E) s
section
variable {CX : CXT} {P : Program} {w : World} {K : PySem.W.Frag} {mg : Str → Option Value} {base : Heap} {k : Nat} {f : Addr}
theorem FnOk.g {fd : FuncData} {ps : List Str} {sp : Sp} (F : FnOk P w K mg base CX k f fd ps sp) : FnG P w K mg base CX k f fd ps sp := ⟨F.len, fun A outer s H args us vs Q E hr _ => F.run A outer s H args us vs Q E hr⟩
theorem FnG.mono {fd : FuncData} {ps : List Str} {sp : Sp} {j : Nat} (F : FnG P w K mg base CX j f fd ps sp) (h : j ≤ k) : FnG P w K mg base CX k f fd ps sp := ⟨F.len, fun A outer s H args us vs Q E hr => F.run A outer s H args us vs Q E (hr.mono h)⟩
theorem fng_of {name qual : Str} {params : Arguments} {body : List Stmt} {scope : Scope} {dV kV doc pm cdv ct oc : Value} {an od : Option Addr} {osl : Array (Option Value)} {N ps : List Str} {sp : Sp}
    (lk : K.lookup f = some ⟨oc, od, .func (PySem.W.fnOf name qual params body scope dV kV doc pm an cdv ct), osl⟩) (hcd : PySem.W.codeIn K cdv qual = true) (S : FnScope N ps scope) (len : ∀ vs H Q E, sp vs H Q E → vs.length = ps.length)
    (hbody : ∀ (A : Around) (outer : List Env) (s : Shared) (H : Hp) (vs : List V) (Q : VK) (E : XK), Room k (A.deeper (envOfC qual scope s.heap.objs.size f cdv)) → A.guards = some [] → sp vs H Q E →
      ∃ t, PSs (cxOf CX P w K mg base N qual scope f cdv A outer s H E) body t ∧ t { nx := fun _ H' => Q .non H', rt := Q } (start N vs) H) :
    FnG P w K mg base CX (k + 1) f (PySem.W.fnOf name qual params body scope dV kV doc pm an cdv ct) ps sp where
  len := len
  run := fun A outer s H args us vs Q E hr hg e0 hb r hsp => by
    have old : ∀ b o, base.get? b = some o → s.heap.get? b = some o := fun b o e => (e0.bs b o e).1
    have ki : K.In s.heap := e0.mod.kin.keeps old
    refine codeAny_call_function hr.depth (ki _ _ lk) rfl S.co S.gen rfl (PySem.W.codeRec_of ki hcd) (hb _ _ _ _ ?_)
    refine wpAny_newFunctionEnv_cells S.kind (fun y hy => (S.par y.1 (List.of_mem_zip hy).1).imp id fun q => ⟨q, PySem.W.cellsFrom_some _ _ _ (.inl q)⟩) fun env he s1 x => ?_
    cases he
    obtain ⟨t, ht, hq⟩ := hbody A outer s H vs Q E (hr.deeper _) hg hsp
    refine ⟨(e0.mod.nolimit.keeps old).keeps x.toInCall.keep, codeAny_func (wpAny_mono (ht.run [] s1 (start N vs) H _ (inv_start S hr.hd e0 (len _ _ _ _ hsp) r x) hq) (fun fl s' hs => ?_) fun e s' hs => hs)⟩
    cases fl with
    | ret u => obtain ⟨v, σ', H', J, rv, q⟩ := hs; exact ⟨v, H', J.os, J.bare, J.base, J.hok, rv, q⟩
    | next => obtain ⟨σ', H', J, q⟩ := hs; exact ⟨.non, H', J.os, J.bare, J.base, J.hok, rfl, q⟩
    | brk => obtain ⟨_, _, _, q⟩ := hs; exact False.elim q
    | cont => obtain ⟨_, _, _, q⟩ := hs; exact False.elim q
end
end L2
namespace L2
open PySem PySem.Spec PyProof.Rows
def hp0 (K : PySem.W.Frag) (a : Addr) (o : Obj) (u : HO) : Hp := fun b => if b = a ∧ K.lookup a = none then some (.frz o u) else none
section
variable {K : PySem.W.Frag} {a : Addr} {o : Obj} {u : HO}
theorem hp0_of {b : Addr} {x : HO} (h : hp0 K a o u b = some x) : b = a ∧ K.lookup a = none ∧ x = .frz o u := by
  unfold hp0 at h
  split at h
  · rename_i c; cases h; exact ⟨c.1, c.2, rfl⟩
  · cases h
theorem hp0_at (h : K.lookup a = none) : hp0 K a o u a = some (.frz o u) := if_pos ⟨rfl, h⟩
end
theorem law_g {P : Program} {w : World} {K : PySem.W.Frag} {mg mb : Str → Option Value} {CX : CXT} {k : Nat} {fa a : Addr} {fd : FuncData} {x : Str} {sp : Sp} {s₁ : Shared} {vs : List Value} {ns : List Int}
    (KX : K.In s₁.heap) (hns : s₁.heap.Ns mainGlobals mg) (hb : s₁.heap.Ns builtinsNs mb) (hbb : ∀ x : Str, x ≠ "__name__" → mb x = bootBuiltins x) (hlim : s₁.heap.NoLimit) (hg : s₁.gens = #[])
    (ha : s₁.heap.get? a = some { cls := .type "list", data := .seq vs.toArray }) (hi : IntsAre vs ns) (hl : ns.length ≤ sizeLine) (hr : Room k callerA)
    (F : ∀ base : Heap, K.In base → base.Ns mainGlobals mg → FnG P w K mg base CX k fa fd [x] sp) (hbind : ∀ (s : Shared) (u : Value), BindsTo s fd ⟨[u], []⟩ [(x, u)])
    (hsp : ∀ H : Hp, Only H → SqL K H a (ns.map V.int) → sp [.ref a] H (fun v _ => v = .bl true) fun _ _ _ => False)
    (hCX : ∀ H e s', CX [] H s₁ (fun _ _ _ => False) e s' → False) :
    codeAny (model P w) callerA (.call (.ref fa) ⟨[.ref a], []⟩) (fun r s' => r = .ok (.ret (.bool true)) ∧ OldK s₁.heap s'.heap ∧ s'.os = s₁.os ∧ AllBare s'.gens) s₁ := by
  have rv := vals_ints hi
  let sc : Obj := { cls := .type "list", data := .seq vs.toArray }
  let H := hp0 K a sc (.lst (ns.map V.int))
  have fr : ∀ {b : Addr} {o : Obj} {x : HO}, H b = some x → s₁.heap.get? b = some o → o = sc := fun h e => by
    obtain ⟨rfl, _⟩ := hp0_of h
    exact Option.some.inj (e.symm.trans ha)
  have nsB : ∀ {b : Addr} {m : Str → Option Value}, s₁.heap.Ns b m → (hidT s₁.heap H).Ns b m := fun {b m} ⟨o, es, ep, e, d, r⟩ => ⟨o, es, ep, hidT_get e (by
    cases q : H b with
    | none => rfl
    | some u =>
      have z := fr q e
      rw [z] at d
      cases d), d, r⟩
  have kb : K.In (hidT s₁.heap H) := fun b o e => hidT_get (KX b o e) (by
    cases q : H b with
    | none => rfl
    | some u =>
      obtain ⟨rfl, z, _⟩ := hp0_of q
      rw [z] at e
      cases e)
  have only : Only H := fun b => by
    cases q : H b with
    | none => exact .inl rfl
    | some u => obtain ⟨_, _, rfl⟩ := hp0_of q; exact .inr ⟨_, _, rfl⟩
  have hS : SqL K H a (ns.map V.int) := by
    cases q : K.lookup a with
    | none => exact .inl (.inr ⟨sc, hp0_at q⟩)
    | some o =>
      have e := (KX a o q).symm.trans ha
      cases e
      exact .inr ⟨_, vs.toArray, _, q, rfl, rfl, rfl, by rw [List.size_toArray, hi.length]; exact hl, by simpa using rv⟩
  have hok : HOk P w H s₁.heap := fun b u z => by
    obtain ⟨rfl, _, rfl⟩ := hp0_of z
    exact ⟨ha, by rw [List.length_map]; exact hl, vs, _, rv, ha⟩
  have e0 : Env0 P w K mg (hidT s₁.heap H) callerA [] s₁ H :=
    ⟨rfl, ⟨kb, nsB hns, ⟨mb, nsB hb, hbb⟩, hlim.imp fun _ z => ⟨nsB z.1, z.2⟩⟩, fun _ _ e => of_hidT e, Nat.le_of_eq (hidT_size _ _), trivial, fun b z => absurd (show b ∈ ([] : List Addr) from z) (by simp), hok, .of_eq hg⟩
  refine codeAny_mono ((F _ kb (nsB hns)).run callerA [] s₁ H ⟨[.ref a], []⟩ [.ref a] [.ref a] _ _ hr rfl e0 (hbind s₁ (.ref a)) (.cons rfl .nil) (hsp H only hS)) fun r s' h => ?_
  cases r with
  | error e => exact (hCX H e s' h).elim
  | ok fl =>
    cases fl with
    | ret u =>
      obtain ⟨v, H', os, bare, un, hok', r', rfl⟩ := h
      cases r'
      refine ⟨rfl, OldK.of_keep fun b o e => ?_, os, bare⟩
      cases q : H b with
      | none => exact un.keep b o e q (fun z => absurd (show b ∈ ([] : List Addr) from z) (by simp)) (by simp)
      | some u =>
        obtain ⟨_, _, rfl⟩ := hp0_of q
        rw [fr q e]
        exact (hok' b _ (un.frzs b _ _ q)).1
    | _ => exact False.elim h
end L2

namespace L2
open PySem PySem.Spec PyProof.Rows PySem.PyData
def keyD : Key → PyData
  | .inl i => .int i
  | .inr x => .str x
mutual
inductive Dq (K : PySem.W.Frag) (H : Hp) : V → PyData → Prop
  | non : Dq K H .non .none
  | bl (b : Bool) : Dq K H (.bl b) (.bool b)
  | int (i : Int) : Dq K H (.int i) (.int i)
  | str (x : Str) : Dq K H (.str x) (.str x)
  | lst {a : Addr} {xs : List V} {ds : List PyData} : SqL K H a xs → DqAll K H xs ds → Dq K H (.ref a) (.list ds)
  | tup {a : Addr} {xs : List V} {ds : List PyData} : SqT K H a xs → DqAll K H xs ds → Dq K H (.ref a) (.tuple ds)
  | dct {a : Addr} {kvs : List (Key × V)} {es : List (PyData × PyData)} : H a = some (.dK kvs) → kvs.map (fun q => keyD q.1) = es.map (·.1) → DqAll K H (kvs.map (·.2)) (es.map (·.2)) → Dq K H (.ref a) (.dict es)
inductive DqAll (K : PySem.W.Frag) (H : Hp) : List V → List PyData → Prop
  | nil : DqAll K H [] []
  | cons {v : V} {vs : List V} {d : PyData} {ds : List PyData} : Dq K H v d → DqAll K H vs ds → DqAll K H (v :: vs) (d :: ds)
end
section
variable {K : PySem.W.Frag} {G G' : Hp}
mutual
theorem Dq.mono (s : Same G G') : ∀ {v : V} {d : PyData}, Dq K G v d → Dq K G' v d
  | _, _, .non => .non
  | _, _, .bl b => .bl b
  | _, _, .int i => .int i
  | _, _, .str x => .str x
  | _, _, .lst h a => .lst (SqL.mono h s) (DqAll.mono s a)
  | _, _, .tup h a => .tup (SqT.mono h s) (DqAll.mono s a)
  | _, _, .dct h k a => .dct (s _ _ h) k (DqAll.mono s a)
theorem DqAll.mono (s : Same G G') : ∀ {vs : List V} {ds : List PyData}, DqAll K G vs ds → DqAll K G' vs ds
  | _, _, .nil => .nil
  | _, _, .cons h t => .cons (Dq.mono s h) (DqAll.mono s t)
end
mutual
theorem Dp.q : ∀ {v : V} {d : PyData}, Dp K G v d → Dq K G v d
  | _, _, .non => .non
  | _, _, .bl b => .bl b
  | _, _, .int i => .int i
  | _, _, .str x => .str x
  | _, _, .lst h a => .lst h (DpAll.q a)
  | _, _, .tup h a => .tup h (DpAll.q a)
theorem DpAll.q : ∀ {vs : List V} {ds : List PyData}, DpAll K G vs ds → DqAll K G vs ds
  | _, _, .nil => .nil
  | _, _, .cons h t => .cons (Dp.q h) (DpAll.q t)
end
mutual
theorem Dq.p : ∀ {v : V} (d : PyData), d.hasDict = false → Dq K G v d → Dp K G v d
  | _, .none, _, h => by cases h; exact .non
  | _, .bool b, _, h => by cases h; exact .bl b
  | _, .int i, _, h => by cases h; exact .int i
  | _, .str x, _, h => by cases h; exact .str x
  | _, .list ds, e, h => by
    cases h with
    | lst hs ha => exact .lst hs (DqAll.p ds (by simpa [PyData.hasDict] using e) ha)
  | _, .tuple ds, e, h => by
    cases h with
    | tup hs ha => exact .tup hs (DqAll.p ds (by simpa [PyData.hasDict] using e) ha)
  | _, .dict _, e, _ => by simp [PyData.hasDict] at e
theorem DqAll.p : ∀ {vs : List V} (ds : List PyData), PyData.hasDictAll ds = false → DqAll K G vs ds → DpAll K G vs ds
  | _, [], _, h => by cases h; exact .nil
  | _, d :: ds, e, h => by
    simp only [PyData.hasDictAll, Bool.or_eq_false_iff] at e
    cases h with
    | cons h1 h2 => exact .cons (Dq.p d e.1 h1) (DqAll.p ds e.2 h2)
end
theorem DqAll.length : ∀ {vs : List V} {ds : List PyData}, DqAll K G vs ds → vs.length = ds.length
  | _, _, .nil => rfl
  | _, _, .cons _ t => congrArg (· + 1) (DqAll.length t)
theorem DqAll.get : ∀ {vs : List V} {ds : List PyData} {i : Nat} {d : PyData}, DqAll K G vs ds → ds[i]? = some d → ∃ v, vs[i]? = some v ∧ Dq K G v d
  | _, _, _, _, .nil, e => by simp at e
  | _, _, 0, _, .cons h _, e => by simp at e; subst e; exact ⟨_, rfl, h⟩
  | _, _, i + 1, d, .cons _ t, e => by
    obtain ⟨v, h1, h2⟩ := DqAll.get (i := i) (d := d) t (by simpa using e)
    exact ⟨v, by simpa using h1, h2⟩
end
section
variable {X : Cx} {pins : List (Addr × Obj)} {σ : St} {H : Hp} {s : Shared}
theorem pairs_reads {P : Program} {w : World} {h : Heap} : ∀ {es : List DictEntry} {vs : List (Key × Value)} {kvs : List (Key × V)}, Pairs (mixKind P w) es vs → KV kvs vs →
    ReadsAll h (es.map (·.key)) (kvs.map fun q => keyD q.1) [] ∧ Vals (kvs.map (·.2)) (es.map (·.val))
  | _, _, _, .nil, .nil => ⟨.nil, .nil⟩
  | _, _, _, .cons hk hv t, .cons hr tr => by
    obtain ⟨e1, e2⟩ := hr
    obtain ⟨q1, q2⟩ := pairs_reads t tr
    refine ⟨?_, .cons (show RelV _ _ from by show RelV _ (DictEntry.val _); rw [hv]; exact e2) q2⟩
    have hk' := keyIs_shape hk
    rcases hk' with ⟨i, tk, z1, z2⟩ | ⟨x, tk, z1, z2⟩
    · rw [List.map_cons, List.map_cons, z2, e1, z1]
      exact ReadsAll.cons (as := []) (Reads.int i tk) q1
    · rw [List.map_cons, List.map_cons, z2, e1, z1]
      exact ReadsAll.cons (as := []) (Reads.str x tk) q1
mutual
theorem Dq.reads (I : Inv X pins σ H s) (hs : ∃ o, X.K.lookup sysModules = some o ∧ o.cls = .type "dict") : ∀ (d : PyData) (v : V) (u : Value), Dq X.K H v d → RelV v u → ∃ as, Reads s.heap u d as ∧ sysModules ∉ as
  | .none, _, _, h, r => by
    cases h
    cases r
    exact ⟨_, Reads.none, by simp⟩
  | .bool b, _, _, h, r => by
    cases h
    cases r
    exact ⟨_, Reads.bool b, by simp⟩
  | .int i, _, _, h, r => by
    cases h
    obtain ⟨t, rfl⟩ := r
    exact ⟨_, Reads.int i t, by simp⟩
  | .str x, _, _, h, r => by
    cases h
    obtain ⟨t, rfl⟩ := r
    exact ⟨_, Reads.str x t, by simp⟩
  | .list ds, _, _, h, r => by
    cases h with
    | lst hq ha =>
      cases r
      obtain ⟨its, rv, ⟨o, n, ho, hc, _, hd⟩, _⟩ := I.list hq
      obtain ⟨as, hr, hn⟩ := Dq.readsAll I hs ds _ its ha rv
      refine ⟨_, Reads.list ho hc hd hr, fun z => ?_⟩
      rcases List.mem_cons.mp z with e | e
      · obtain ⟨o', e1, e2⟩ := hs
        have q := I.kIn _ _ e1
        rw [e, ho] at q
        cases q
        rw [hc] at e2
        exact absurd (Value.type.inj e2) (by decide)
      · exact hn e
  | .tuple ds, _, _, h, r => by
    cases h with
    | tup hq ha =>
      cases r
      obtain ⟨its, rv, ⟨o, ho, hc, n, hd⟩, _⟩ := I.tuple hq
      obtain ⟨as, hr, hn⟩ := Dq.readsAll I hs ds _ its ha rv
      exact ⟨_, Reads.tuple ho hc hd hr, hn⟩
  | .dict es, _, _, h, r => by
    cases h with
    | @dct a kvs _ hq hk ha =>
      cases r
      obtain ⟨_, hsm, vs, kv, o, ent, ep, ho, hex, hd, _, hp, _⟩ := I.hok _ _ hq
      obtain ⟨q1, q2⟩ := pairs_reads (h := s.heap) hp kv
      obtain ⟨bs, hr, hn⟩ := Dq.readsAllK I hs es _ _ ha q2
      rw [hk] at q1
      refine ⟨_, Reads.dict ho hex.1 hd q1 hr, fun z => ?_⟩
      rcases List.mem_cons.mp (show sysModules ∈ a :: ([] ++ bs) from z) with e | e
      · rw [e] at hsm; simp at hsm
      · exact hn (by simpa using e)
theorem Dq.readsAll (I : Inv X pins σ H s) (hs : ∃ o, X.K.lookup sysModules = some o ∧ o.cls = .type "dict") : ∀ (ds : List PyData) (vs : List V) (us : List Value), DqAll X.K H vs ds → Vals vs us → ∃ as, ReadsAll s.heap us ds as ∧ sysModules ∉ as
  | [], _, _, h, r => by
    cases h
    cases r
    exact ⟨_, ReadsAll.nil, by simp⟩
  | d :: ds, _, _, h, r => by
    cases h with
    | cons h1 h2 =>
      cases r with
      | cons r1 r2 =>
        obtain ⟨as, q1, n1⟩ := Dq.reads I hs d _ _ h1 r1
        obtain ⟨bs, q2, n2⟩ := Dq.readsAll I hs ds _ _ h2 r2
        exact ⟨_, ReadsAll.cons q1 q2, fun z => (List.mem_append.mp z).elim n1 n2⟩
theorem Dq.readsAllK (I : Inv X pins σ H s) (hs : ∃ o, X.K.lookup sysModules = some o ∧ o.cls = .type "dict") : ∀ (es : List (PyData × PyData)) (vs : List V) (us : List Value), DqAll X.K H vs (es.map (·.2)) → Vals vs us → ∃ as, ReadsAll s.heap us (es.map (·.2)) as ∧ sysModules ∉ as
  | [], _, _, h, r => by
    cases h
    cases r
    exact ⟨_, ReadsAll.nil, by simp⟩
  | (k, d) :: es, _, _, h, r => by
    cases h with
    | cons h1 h2 =>
      cases r with
      | cons r1 r2 =>
        obtain ⟨as, q1, n1⟩ := Dq.reads I hs d _ _ h1 r1
        obtain ⟨bs, q2, n2⟩ := Dq.readsAllK I hs es _ _ h2 r2
        exact ⟨_, ReadsAll.cons q1 q2, fun z => (List.mem_append.mp z).elim n1 n2⟩
end
end
end L2

namespace He
open PySem PySem.Spec PyProof.Rows L2 PySem.W PySem.HandSPX
def oD (K : PySem.W.Frag) : Addr := ga K "OweError"
def oI (K : PySem.W.Frag) : Addr := ma K (oD K) "__init__"
def shapeB (K : PySem.W.Frag) (C : Addr) : Bool := match K.lookup C with
  | some ⟨.type c, _, .cls cd, sl⟩ => (match cd.mro, sl.toList with
    | .ref C' :: bm, [_, _, _, _, some (.builtin n), _] => decide (c = "type") && (decide (C' = C) && (decide (n = "ValueError.__new__") && (!cd.hasDel && (cd.hasDict && refsVE bm))))
    | _, _ => false)
  | _ => false
theorem shape_ok {K : PySem.W.Frag} {C : Addr} (h : shapeB K C = true) : ∃ nm q N bs bm sn sub ab col dd k0 k1 k2 k3 k5, K.lookup C = some (excClassObj nm q C N bs bm true sn sub ab col dd k0 k1 k2 k3 k5 "ValueError.__new__") ∧ refsVE bm = true := by
  unfold shapeB at h
  split at h
  · rename_i c dd cd sl ho
    split at h
    · rename_i C' bm k0 k1 k2 k3 n k5 hm hs
      simp only [Bool.and_eq_true, decide_eq_true_eq, Bool.not_eq_true'] at h
      obtain ⟨rfl, rfl, rfl, hdel, hdct, hr⟩ := h
      obtain ⟨nm, bs, mro, ns, qn, hd, sn, sub, ab, col, del⟩ := cd
      dsimp only at hm hdel hdct
      subst hm hdel hdct
      have hsl : sl = #[k0, k1, k2, k3, some (.builtin "ValueError.__new__"), k5] := by
        obtain ⟨l⟩ := sl
        simp only at hs
        rw [hs]
      subst hsl
      exact ⟨nm, qn, ns, bs, bm, sn, sub, ab, col, dd, k0, k1, k2, k3, k5, ho, hr⟩
    · cases h
  · cases h
def errB (K : PySem.W.Frag) (x : Str) : Bool :=
  shapeB K (ga K x) && (eqO (findIn K (.ref (ga K x)) "__setattr__") (some (some (.builtin "object.__setattr__"))) && (eqO (findIn K (.ref (ga K x)) "__getattribute__") (some (some (.builtin "BaseException.__getattribute__"))) && (eqO (findIn K (.ref (ga K x)) "__getattr__") (some none) &&
  (eqO (findIn K (.ref (ga K x)) "what") (some none) && (eqO (findIn K (.ref (ga K x)) "__init__") (some (some (.ref (oI K)))) && (keepIn K (.ref (ga K x)) && (decide (subIn K (.ref (ga K x)) (.type "BaseException") = some true) && (decide (subIn K (.ref (ga K x)) (.type "ValueError") = some true) &&
  (decide (typeIn K (.ref (ga K x)) = some (.type "type")) && (hasDictIn K (ga K x) && (decide (mroIn K (ga K x) (.ref (oD K)) = some true) && eqO (ks_superIn K (ga K x) (oD K) "__init__") (some (some (.builtin "ValueError.__init__"))))))))))))))
theorem err_ok {K : PySem.W.Frag} {x : Str} (h : errB K x = true) : OweX.Cls K (oD K) (oI K) (ga K x) := by
  unfold errB at h
  obtain ⟨h1, h⟩ := ba h
  obtain ⟨h2, h⟩ := ba h
  obtain ⟨h3, h⟩ := ba h
  obtain ⟨h4, h⟩ := ba h
  obtain ⟨h5, h⟩ := ba h
  obtain ⟨h6, h⟩ := ba h
  obtain ⟨h7, h⟩ := ba h
  obtain ⟨h8, h⟩ := ba h
  obtain ⟨h9, h⟩ := ba h
  obtain ⟨h10, h⟩ := ba h
  obtain ⟨h11, h⟩ := ba h
  obtain ⟨h12, h13⟩ := ba h
  exact ⟨shape_ok h1, eqO_ok h2, eqO_ok h3, eqO_ok h4, eqO_ok h5, eqO_ok h6, h7, of_decide_eq_true h8, of_decide_eq_true h9, of_decide_eq_true h10, h11, of_decide_eq_true h12, eqO_ok h13⟩
abbrev OwW : Type := Option (Str × Str × Arguments × FuncBody × Scope × Addr × List Str × Addr)
def oweW (K : PySem.W.Frag) : OwW := match K.lookup (oI K) with
  | some ⟨_, _, .func fd, _⟩ => some (fd.name, fd.qualname, fd.params, fd.body, fd.scope, fd.globals, fd.closure.map (·.1), fd.builtins)
  | _ => none
def cellB (K : PySem.W.Frag) (cl : List (Str × Addr)) : Bool := match cl with
  | [(_, cc)] => (match K.lookup cc with
    | some ⟨_, _, .cell (some (.ref D)), _⟩ => decide (D = oD K)
    | _ => false)
  | _ => false
def fileB (K : PySem.W.Frag) (cd : Value) (file : Str) : Bool := match cd with
  | .ref c => (match K.lookup c with
    | some ⟨_, _, .fields vs, _⟩ => (match (vs[2]? : Option Value) with
      | some (.str f _) => file == f
      | _ => false)
    | _ => false)
  | _ => false
def nonB (K : PySem.W.Frag) (dV : Value) : Bool := match dV with
  | .ref T => (match K.lookup T with
    | some ⟨_, _, .seq its _, _⟩ => (match its.toList with
      | [.none] => true
      | _ => false)
    | _ => false)
  | _ => false
def oweB (K : PySem.W.Frag) (file : Str) : Bool := (match K.lookup (oI K) with
  | some ⟨_, _, .func fd, _⟩ => codeIn K fd.code "OweError.__init__" && (cellB K fd.closure && (fileB K fd.code file && nonB K fd.defaults))
  | _ => false) && (decide (typeIn K (.ref (oI K)) = some (.type "function")) && ((clsIn K (oD K)).isSome && (eqO (nsIn K cStatics "thirdparty.any") (some none) && (match K.lookup sysModules with
  | some o => decide (o.cls = .type "dict")
  | none => false))))
def oweVal (p1 p2 p3 a0 a1 a2 a3 a4 a5 q1 q2 q3 q4 : Pos) : OwW := some (PySem.Str.ofString "__init__", PySem.Str.ofString "OweError.__init__", OweX.iA p1 p2 p3, FuncBody.stmts (OweX.iB a0 a1 a2 a3 a4 a5 q1 q2 q3 q4), OweX.iS, mainGlobals, [PySem.Str.ofString "__class__"], builtinsNs)
theorem owe_ok {prog : Program} {K : PySem.W.Frag} {p1 p2 p3 a0 a1 a2 a3 a4 a5 q1 q2 q3 q4 : Pos} (e : oweW K = oweVal p1 p2 p3 a0 a1 a2 a3 a4 a5 q1 q2 q3 q4) (c : oweB K prog.main.file = true)
    (hl : (a2.endLine == a4.line) = true) (top : (prog.main.scope.names.lookup ("super" : Str)).isSome = false) : OweX.Txt prog K (oD K) (oI K) ∧ ∃ o, K.lookup sysModules = some o ∧ o.cls = .type "dict" := by
  unfold oweB at c
  obtain ⟨c1, c2⟩ := ba c
  obtain ⟨c3, c4⟩ := ba c2
  obtain ⟨c5, c6⟩ := ba c4
  obtain ⟨c7, c8⟩ := ba c6
  have sm : ∃ o, K.lookup sysModules = some o ∧ o.cls = .type "dict" := by
    cases q : K.lookup sysModules with
    | none => rw [q] at c8; cases c8
    | some o => rw [q] at c8; exact ⟨o, rfl, of_decide_eq_true c8⟩
  refine ⟨⟨?_, of_decide_eq_true c3, Option.isSome_iff_exists.mp c5, eqO_ok c7, top⟩, sm⟩
  unfold oweW oweVal at e
  cases q : K.lookup (oI K) with
  | none => rw [q] at c1; cases c1
  | some o =>
    obtain ⟨oc, od, dt, osl⟩ := o
    rw [q] at c1 e
    cases dt with
    | func fd =>
      obtain ⟨n1, n2, n3, n4, n5, n6, n7, n8, n9, n10, n11, n12, n13, n14, n15⟩ := fd
      simp only [Option.some.injEq, Prod.mk.injEq] at e
      obtain ⟨h1, h2, h3, h4, h5, h6, h7, h8⟩ := e
      subst h1 h2 h3 h4 h5 h6 h8
      dsimp only at c1
      obtain ⟨k1, r1⟩ := ba c1
      obtain ⟨k2, r2⟩ := ba r1
      obtain ⟨k3, k4⟩ := ba r2
      unfold cellB at k2
      split at k2
      · rename_i nn cc
        split at k2
        · rename_i cl cld D csl hc
          have hD : D = oD K := of_decide_eq_true k2
          subst hD
          have hn : nn = ("__class__" : Str) := by simpa using h7
          subst hn
          unfold fileB at k3
          split at k3
          · rename_i cda
            split at k3
            · rename_i ccl cdd vs ccs hcd
              split at k3
              · rename_i f tf hf
                unfold nonB at k4
                split at k4
                · rename_i T
                  split at k4
                  · rename_i tc td its n tsl hT
                    split at k4
                    · rename_i hi
                      refine ⟨oc, od, T, n9, n10, n11, n12, n14, osl, cda, cc, p1, p2, p3, a0, a1, a2, a3, a4, a5, q1, q2, q3, q4, rfl, k1, ⟨ccl, cdd, vs, ccs, f, tf, hcd, hf, k3⟩, ⟨cl, cld, csl, hc⟩, ⟨_, n, hT, ?_⟩, hl⟩
                      have : its = #[Value.none] := by
                        obtain ⟨l⟩ := its
                        simp only at hi
                        rw [hi]
                      rw [this]
                    · cases k4
                  · cases k4
                · cases k4
              · cases k3
            · cases k3
          · cases k3
        · cases k2
      · cases k2
    | _ => cases c1
def insB (K : PySem.W.Frag) (x : Str) : Bool :=
  eqO (findIn K (.ref (ga K x)) "__class__") (some (some (.builtin "object.__class__"))) && (eqO (specialIn K (.builtin "object.__class__") "__get__") (some (some (.builtin "getset_descriptor.__get__"))) && (decide (takesIn K (.builtin "object.__class__") = some true) && (decide (mroIn K (ga K x) (.type "object") = some true) &&
  ((["int", "bool", "str", "tuple", "list", "dict"].all fun T => decide (kitOne K (.ref (ga K x)) (.type T) = some false)) && ((["NoneType", "int", "bool", "str", "tuple", "list", "dict"].all fun T => decide (kitOne K (.type T) (.ref (ga K x)) = some false)) && (decide (kitOne K (.ref (ga K x)) (.ref (ga K x)) = some true) && PySem.W.selfFirst K (ga K x)))))))
structure InsC (K : PySem.W.Frag) (C : Addr) : Prop where
  ha : findIn K (.ref C) "__class__" = some (some (.builtin "object.__class__"))
  hn : specialIn K (.builtin "object.__class__") "__get__" = some (some (.builtin "getset_descriptor.__get__"))
  htk : takesIn K (.builtin "object.__class__") = some true
  hm : mroIn K C (.type "object") = some true
  ty : ∀ T ∈ ["int", "bool", "str", "tuple", "list", "dict"], kitOne K (.ref C) (.type T) = some false
  no : ∀ T ∈ ["NoneType", "int", "bool", "str", "tuple", "list", "dict"], kitOne K (.type T) (.ref C) = some false
  self : kitOne K (.ref C) (.ref C) = some true
  sf : PySem.W.selfFirst K C = true
theorem ins_ok {K : PySem.W.Frag} {x : Str} (h : insB K x = true) : InsC K (ga K x) := by
  unfold insB at h
  obtain ⟨h1, h⟩ := ba h
  obtain ⟨h2, h⟩ := ba h
  obtain ⟨h3, h⟩ := ba h
  obtain ⟨h4, h⟩ := ba h
  obtain ⟨h5, h⟩ := ba h
  obtain ⟨h6, h⟩ := ba h
  obtain ⟨h7, h8⟩ := ba h
  exact ⟨eqO_ok h1, eqO_ok h2, of_decide_eq_true h3, of_decide_eq_true h4, fun T m => of_decide_eq_true (List.all_eq_true.mp h5 T m), fun T m => of_decide_eq_true (List.all_eq_true.mp h6 T m), of_decide_eq_true h7, h8⟩
def ekB (K : PySem.W.Frag) (ek : List Str) (x : Str) : Bool :=
  eqO (findIn K (.ref (ga K x)) "__class__") (some (some (.builtin "object.__class__"))) && (eqO (specialIn K (.builtin "object.__class__") "__get__") (some (some (.builtin "getset_descriptor.__get__"))) && (decide (takesIn K (.builtin "object.__class__") = some true) && (decide (mroIn K (ga K x) (.type "object") = some true) &&
  ((ek.all fun y => decide (kitOne K (.ref (ga K x)) (.ref (ga K y)) = some (decide (x = y) || decide (y = "OweError")))) && decide (kitOne K (.ref (ga K x)) (.type "ValueError") = some true)))))
abbrev AlW : Type := AlD × Bool × OwW
def obsW (fa : List Fa) (fn : List DefD) (ex ic ek : List Str) (xm : List (Str × Str × Bool)) (file : Str) (K : PySem.W.Frag) : AlW := (obsD fa fn K, (ex.all (errB K) && (ic.all (insB K) && (ek.all (ekB K ek) && xm.all fun q => (Fa.exm q.1 q.2.1 q.2.2).ok K))) && oweB K file, oweW K)
def valW (fn : List DefD) (ow : OwW) : AlW := (valD fn, true, ow)
structure SaysW (fa : List Fa) (fn : List DefD) (ex ic ek : List Str) (xm : List (Str × Str × Bool)) (file : Str) (ow : OwW) (K : PySem.W.Frag) : Prop where
  d : SaysD fa fn K
  e : ex.all (errB K) = true
  i : ic.all (insB K) = true
  k : ek.all (ekB K ek) = true
  x : (xm.all fun q => (Fa.exm q.1 q.2.1 q.2.2).ok K) = true
  b : oweB K file = true
  w : oweW K = ow
def obsWG (as : List Addr) (fa : List Fa) (fn : List DefD) (ex ic ek : List Str) (xm : List (Str × Str × Bool)) (file : Str) (g : Addr → Option Obj) : AlW := obsW fa fn ex ic ek xm file (frG g as)
theorem saysW_of {fa : List Fa} {fn : List DefD} {ex ic ek : List Str} {xm : List (Str × Str × Bool)} {file : Str} {ow : OwW} {K : PySem.W.Frag} (e : obsW fa fn ex ic ek xm file K = valW fn ow) : SaysW fa fn ex ic ek xm file ow K := by
  have e1 := congrArg (fun z : AlW => z.1) e
  have e2 : ((ex.all (errB K) && (ic.all (insB K) && (ek.all (ekB K ek) && xm.all fun q => (Fa.exm q.1 q.2.1 q.2.2).ok K))) && oweB K file) = true := congrArg (fun z : AlW => z.2.1) e
  have e3 := congrArg (fun z : AlW => z.2.2) e
  obtain ⟨h1, h2⟩ := ba e2
  obtain ⟨h3, h4⟩ := ba h1
  obtain ⟨h5, h6⟩ := ba h4
  obtain ⟨h7, h8⟩ := ba h6
  exact ⟨e1, h3, h5, h7, h8, h2, e3⟩
def hookW (as : List Addr) (fa : List Fa) (fn : List DefD) (ex ic ek : List Str) (xm : List (Str × Str × Bool)) (file : Str) (ow : OwW) : PySem.W.Hook where
  α := AlW
  obs := fun s => obsWG as fa fn ex ic ek xm file s.heap.get?
  val := fun _ => valW fn ow
  says := fun _ h => ∃ K : PySem.W.Frag, K.In h ∧ SaysW fa fn ex ic ek xm file ow K
  of := fun _ _ e => ⟨_, frG_in, saysW_of e⟩
  keeps := fun _ _ _ ⟨K, hK, c⟩ k => ⟨K, PySem.W.Frag.In.keeps hK k, c⟩
theorem obsWG_eq {as : List Addr} {fa : List Fa} {fn : List DefD} {ex ic ek : List Str} {xm : List (Str × Str × Bool)} {file : Str} {ow : OwW} {g : Addr → Option Obj} {s : Shared} (h : ∀ a, g a = s.heap.get? a) : obsWG as fa fn ex ic ek xm file g = (hookW as fa fn ex ic ek xm file ow).obs s := by
  have e : g = s.heap.get? := funext h
  rw [e] <;> rfl
section
variable {fa : List Fa} {fn : List DefD} {ex ic ek : List Str} {xm : List (Str × Str × Bool)} {file : Str} {ow : OwW} {K : PySem.W.Frag}
theorem SaysW.err (c : SaysW fa fn ex ic ek xm file ow K) (i : Nat) {x : Str} (h : ex[i]? = some x := by rfl) : OweX.Cls K (oD K) (oI K) (ga K x) := err_ok (List.all_eq_true.mp c.e x (List.mem_of_getElem? h))
theorem SaysW.ins (c : SaysW fa fn ex ic ek xm file ow K) (i : Nat) {x : Str} (h : ic[i]? = some x := by rfl) : InsC K (ga K x) := ins_ok (List.all_eq_true.mp c.i x (List.mem_of_getElem? h))
theorem SaysW.exm (c : SaysW fa fn ex ic ek xm file ow K) (i : Nat) {x y : Str} {b : Bool} (h : xm[i]? = some (x, y, b) := by rfl) : PySem.W.exmOne K (.ref (ga K x)) (.ref (ga K y)) = some b :=
  of_decide_eq_true (List.all_eq_true.mp c.x (x, y, b) (List.mem_of_getElem? h))
end
end He

namespace Law
open PySem PySem.Spec PyProof.Rows L2 Nd
def top (i : Nat) : Stmt := PySem.Challenge.pw_neverowing_k02_shares_are_fractions.main.body.getD i (.Pass ⟨0, 0, 0, 0⟩)
abbrev sIsInteger : Stmt := top 4
theorem scIsInteger : FnScope ["value"] ["value"] (defScope sIsInteger) := ⟨rfl, rfl, rfl, by decide +kernel, rfl, by decide +kernel, by decide +kernel⟩
abbrev sCommonPart : Stmt := top 5
theorem scCommonPart : FnScope ["one", "other", "part", "rest", "left"] ["one", "other"] (defScope sCommonPart) := ⟨rfl, rfl, rfl, by decide +kernel, rfl, by decide +kernel, by decide +kernel⟩
abbrev sShare_Init : Stmt := inClass (top 7) 0
theorem scShare_Init : FnScope ["self", "top", "bottom", "common"] ["self", "top", "bottom"] (defScope sShare_Init) := ⟨rfl, rfl, rfl, by decide +kernel, rfl, by decide +kernel, by decide +kernel⟩
abbrev sShare_Eq : Stmt := inClass (top 7) 1
theorem scShare_Eq : FnScope ["self", "other"] ["self", "other"] (defScope sShare_Eq) := ⟨rfl, rfl, rfl, by decide +kernel, rfl, by decide +kernel, by decide +kernel⟩
abbrev sShare_Neg : Stmt := inClass (top 7) 2
theorem scShare_Neg : FnScope ["self"] ["self"] (defScope sShare_Neg) := ⟨rfl, rfl, rfl, by decide +kernel, rfl, by decide +kernel, by decide +kernel⟩
abbrev sShare_Add : Stmt := inClass (top 7) 3
theorem scShare_Add : FnScope ["self", "other"] ["self", "other"] (defScope sShare_Add) := ⟨rfl, rfl, rfl, by decide +kernel, rfl, by decide +kernel, by decide +kernel⟩
abbrev sShare_Radd : Stmt := inClass (top 7) 4
theorem scShare_Radd : FnScope ["self", "other"] ["self", "other"] (defScope sShare_Radd) := ⟨rfl, rfl, rfl, by decide +kernel, rfl, by decide +kernel, by decide +kernel⟩
abbrev sShare_Sub : Stmt := inClass (top 7) 5
theorem scShare_Sub : FnScope ["self", "other"] ["self", "other"] (defScope sShare_Sub) := ⟨rfl, rfl, rfl, by decide +kernel, rfl, by decide +kernel, by decide +kernel⟩
abbrev sShare_Rsub : Stmt := inClass (top 7) 6
theorem scShare_Rsub : FnScope ["self", "other"] ["self", "other"] (defScope sShare_Rsub) := ⟨rfl, rfl, rfl, by decide +kernel, rfl, by decide +kernel, by decide +kernel⟩
abbrev sShare_Mul : Stmt := inClass (top 7) 7
theorem scShare_Mul : FnScope ["self", "other"] ["self", "other"] (defScope sShare_Mul) := ⟨rfl, rfl, rfl, by decide +kernel, rfl, by decide +kernel, by decide +kernel⟩
abbrev sShare_Rmul : Stmt := inClass (top 7) 8
theorem scShare_Rmul : FnScope ["self", "other"] ["self", "other"] (defScope sShare_Rmul) := ⟨rfl, rfl, rfl, by decide +kernel, rfl, by decide +kernel, by decide +kernel⟩
abbrev sShare_Below : Stmt := inClass (top 7) 9
theorem scShare_Below : FnScope ["self", "x"] ["self", "x"] (defScope sShare_Below) := ⟨rfl, rfl, rfl, by decide +kernel, rfl, by decide +kernel, by decide +kernel⟩
abbrev sLCell : Stmt := top 9
theorem scLCell : FnScope ["_law_script", "_law_at"] ["_law_script", "_law_at"] (defScope sLCell) := ⟨rfl, rfl, rfl, by decide +kernel, rfl, by decide +kernel, by decide +kernel⟩
abbrev sLState : Stmt := top 10
theorem scLState : FnScope ["_law_cell_here"] ["_law_cell_here"] (defScope sLState) := ⟨rfl, rfl, rfl, by decide +kernel, rfl, by decide +kernel, by decide +kernel⟩
abbrev sLTake : Stmt := top 11
theorem scLTake : FnScope ["_law_state_here", "_law_many", "_law_digit", "_law_mixed"] ["_law_state_here", "_law_many"] (defScope sLTake) := ⟨rfl, rfl, rfl, by decide +kernel, rfl, by decide +kernel, by decide +kernel⟩
abbrev sLIsInt : Stmt := top 12
theorem scLIsInt : FnScope ["_law_value"] ["_law_value"] (defScope sLIsInt) := ⟨rfl, rfl, rfl, by decide +kernel, rfl, by decide +kernel, by decide +kernel⟩
abbrev sLNumber : Stmt := top 13
theorem scLNumber : FnScope ["_law_state_here", "_law_wide"] ["_law_state_here"] (defScope sLNumber) := ⟨rfl, rfl, rfl, by decide +kernel, rfl, by decide +kernel, by decide +kernel⟩
abbrev sLIsShare : Stmt := top 14
theorem scLIsShare : FnScope ["_law_value", "_law_top", "_law_bottom", "_law_one", "_law_other", "_law_turn", "_law_rest"] ["_law_value", "_law_top", "_law_bottom"] (defScope sLIsShare) := ⟨rfl, rfl, rfl, by decide +kernel, rfl, by decide +kernel, by decide +kernel⟩
abbrev sLSums : Stmt := top 15
theorem scLSums : FnScope ["_law_share", "_law_other", "_law_one", "_law_two", "_law_sums_here", "_law_less", "_law_product"] ["_law_share", "_law_other", "_law_one", "_law_two"] (defScope sLSums) := ⟨rfl, rfl, rfl, by decide +kernel, rfl, by decide +kernel, by decide +kernel⟩
abbrev sLaw : Stmt := top 16
theorem scLaw : FnScope ["_law_script", "_law_at", "_law_state_here", "_law_tops", "_law_bottoms", "_law_turn", "_law_number_here", "_law_share", "_law_other", "_law_one", "_law_two", "_law_sign", "_law_apart", "_law_strange"] ["_law_script"] (defScope sLaw) := ⟨rfl, rfl, rfl, by decide +kernel, rfl, by decide +kernel, by decide +kernel⟩
def dIsInteger : He.DefD := ⟨("is_integer", none), "is_integer", "is_integer", defArgs sIsInteger, defBody sIsInteger, defScope sIsInteger, [], []⟩
def dCommonPart : He.DefD := ⟨("common_part", none), "common_part", "common_part", defArgs sCommonPart, defBody sCommonPart, defScope sCommonPart, [], []⟩
def dShare_Init : He.DefD := ⟨("Share", some "__init__"), "__init__", "Share.__init__", defArgs sShare_Init, defBody sShare_Init, defScope sShare_Init, [.int 1], []⟩
def dShare_Eq : He.DefD := ⟨("Share", some "__eq__"), "__eq__", "Share.__eq__", defArgs sShare_Eq, defBody sShare_Eq, defScope sShare_Eq, [], []⟩
def dShare_Neg : He.DefD := ⟨("Share", some "__neg__"), "__neg__", "Share.__neg__", defArgs sShare_Neg, defBody sShare_Neg, defScope sShare_Neg, [], []⟩
def dShare_Add : He.DefD := ⟨("Share", some "__add__"), "__add__", "Share.__add__", defArgs sShare_Add, defBody sShare_Add, defScope sShare_Add, [], []⟩
def dShare_Radd : He.DefD := ⟨("Share", some "__radd__"), "__radd__", "Share.__radd__", defArgs sShare_Radd, defBody sShare_Radd, defScope sShare_Radd, [], []⟩
def dShare_Sub : He.DefD := ⟨("Share", some "__sub__"), "__sub__", "Share.__sub__", defArgs sShare_Sub, defBody sShare_Sub, defScope sShare_Sub, [], []⟩
def dShare_Rsub : He.DefD := ⟨("Share", some "__rsub__"), "__rsub__", "Share.__rsub__", defArgs sShare_Rsub, defBody sShare_Rsub, defScope sShare_Rsub, [], []⟩
def dShare_Mul : He.DefD := ⟨("Share", some "__mul__"), "__mul__", "Share.__mul__", defArgs sShare_Mul, defBody sShare_Mul, defScope sShare_Mul, [], []⟩
def dShare_Rmul : He.DefD := ⟨("Share", some "__rmul__"), "__rmul__", "Share.__rmul__", defArgs sShare_Rmul, defBody sShare_Rmul, defScope sShare_Rmul, [], []⟩
def dShare_Below : He.DefD := ⟨("Share", some "below"), "below", "Share.below", defArgs sShare_Below, defBody sShare_Below, defScope sShare_Below, [], []⟩
def dLCell : He.DefD := ⟨("_law_cell", none), "_law_cell", "_law_cell", defArgs sLCell, defBody sLCell, defScope sLCell, [], []⟩
def dLState : He.DefD := ⟨("_law_state", none), "_law_state", "_law_state", defArgs sLState, defBody sLState, defScope sLState, [], []⟩
def dLTake : He.DefD := ⟨("_law_take", none), "_law_take", "_law_take", defArgs sLTake, defBody sLTake, defScope sLTake, [], []⟩
def dLIsInt : He.DefD := ⟨("_law_is_int", none), "_law_is_int", "_law_is_int", defArgs sLIsInt, defBody sLIsInt, defScope sLIsInt, [], []⟩
def dLNumber : He.DefD := ⟨("_law_number", none), "_law_number", "_law_number", defArgs sLNumber, defBody sLNumber, defScope sLNumber, [], []⟩
def dLIsShare : He.DefD := ⟨("_law_is_share", none), "_law_is_share", "_law_is_share", defArgs sLIsShare, defBody sLIsShare, defScope sLIsShare, [], []⟩
def dLSums : He.DefD := ⟨("_law_sums", none), "_law_sums", "_law_sums", defArgs sLSums, defBody sLSums, defScope sLSums, [], []⟩
def dLaw : He.DefD := ⟨("law", none), "law", "law", defArgs sLaw, defBody sLaw, defScope sLaw, [], []⟩
def fn : List He.DefD := [dIsInteger, dCommonPart, dShare_Init, dShare_Eq, dShare_Neg, dShare_Add, dShare_Radd, dShare_Sub, dShare_Rsub, dShare_Mul, dShare_Rmul, dShare_Below, dLCell, dLState, dLTake, dLIsInt, dLNumber, dLIsShare, dLSums, dLaw]
def fa0 : List He.Fa := [.glo "is_integer", .glo "common_part", .glo "_law_cell", .glo "_law_state", .glo "_law_take", .glo "_law_is_int", .glo "_law_number", .glo "_law_is_share", .glo "_law_sums", .glo "law", .glo "OweError", .glo "BadShare", .glo "Share", .cls "Share", .noat "Share" "top", .noat "Share" "bottom", .mkr "Share", .meth "Share" "__eq__", .meth "Share" "__neg__", .meth "Share" "__add__", .meth "Share" "__radd__", .meth "Share" "__sub__", .meth "Share" "__rsub__", .meth "Share" "__mul__", .meth "Share" "__rmul__", .meth "Share" "below", .free "len", .free "int", .free "isinstance", .free "range"]
def fa1 : List He.Fa := [.free "bool", .free "abs", .free "super", .free "ValueError"]
def fa : List He.Fa := fa0 ++ fa1
def loose0 : List PySem.Str := ["OweError", "BadShare", "is_integer", "common_part", "Share", "_law_cell", "_law_state", "_law_take", "_law_is_int", "_law_number", "_law_is_share", "_law_sums"]
def loose : List PySem.Str := loose0
def ics : List PySem.Str := ["Share"]
def eks : List PySem.Str := []
def exs : List PySem.Str := ["OweError", "BadShare"]
def xms : List (PySem.Str × PySem.Str × Bool) := []
def ow : He.OwW := He.oweVal ⟨4, 17, 4, 21⟩ ⟨4, 23, 4, 27⟩ ⟨4, 28, 4, 32⟩ ⟨5, 8, 5, 13⟩ ⟨5, 8, 5, 15⟩ ⟨5, 8, 5, 24⟩ ⟨5, 25, 5, 29⟩ ⟨5, 8, 5, 30⟩ ⟨5, 8, 5, 30⟩ ⟨6, 8, 6, 12⟩ ⟨6, 8, 6, 17⟩ ⟨6, 20, 6, 24⟩ ⟨6, 8, 6, 24⟩
abbrev PP : Program := PySem.Challenge.pw_neverowing_k02_shares_are_fractions

abbrev Says (K : PySem.W.Frag) : Prop := He.SaysW fa fn exs ics eks xms PP.main.file ow K
theorem txt {K : PySem.W.Frag} (c : Says K) : OweX.Txt PP K (He.oD K) (He.oI K) ∧ ∃ o, K.lookup sysModules = some o ∧ o.cls = .type "dict" := He.owe_ok c.w c.b rfl (by decide +kernel)
abbrev R : PySem.W.OpenRow := PySem.W.OpenLaw.row PySem.Challenge.rw_neverowing_k02_shares_are_fractions
def adr : List PySem.Addr := [3, 6, 4, 34, 47, 56, 63, 144, 155, 162, 169, 176, 183, 190, 197, 202, 0, 33, 46, 55, 62, 143, 154, 161, 168, 175, 182, 189, 196, 201, 31, 32, 35, 45, 78, 85, 92, 99, 106, 113, 120, 127, 134, 141, 142, 145, 146, 30, 23, 18, 77, 71, 84, 91, 98, 105, 112, 119, 126, 133, 140, 2, 1]
abbrev hk : PySem.W.Hook := He.hookW adr fa fn exs ics eks xms PP.main.file ow
def ob (s : PySem.W.SharedT) : He.AlW := He.obsWG adr fa fn exs ics eks xms PP.main.file (HandSHeadRun.getT s)
theorem ob_eq (s : PySem.W.SharedT) : ob s = hk.obs s.abs := He.obsWG_eq (HandSHeadRun.getT_eq s)
theorem run (w : World) : HandSHeadRun.RunEq R (PySem.W.view R.prog [16]) hk ob 20000 loose w := by
  intro os
  kernel_rfl
end Law
namespace Nd
open PySem L2 PyProof.Rows
section
variable {K : PySem.W.Frag} {m : Md} {E : XK} {δ : List (Option Pd)} {ta tb tc te : TE} {t u : TT} {P R S T : Pd} {t1 t2 : TS} {O : Ou} {C : Addr}
abbrev WO (E : XK) : WX := fun cls d _ H => E cls d H
section
variable {Co a dx : Addr} {ps : List (Str × Pd)} {X : Addr → Pd → Prop}
end
end
section
variable {K : PySem.W.Frag} {m : Md} {E : XK} {δ : List (Option Pd)} {ta tb tc te : TE} {t u : TT} {P R S T : Pd} {t1 t2 : TS} {O : Ou} {C : Addr}
theorem Fl.cn {d : Addr} {v : V} {G H : Hp} (f : Fl m d v P G H) (c : Cn m G H) : Cn (m.hold d (.xd [(("what" : Str), v)])) G H :=
  ⟨c.gh, ⟨c.iv, f.at_⟩, fun a h => h.elim (c.nm a) fun z => by rw [z]; exact f.g⟩
theorem Sl.clear {G : Hp} {σ : L2.St} (h : Sl G σ δ) (i : Nat) : Sl G (σ.set i none) (δ.set i none) := by
  refine ⟨by rw [List.length_set, List.length_set]; exact h.1, fun j R e => ?_⟩
  by_cases hj : i = j
  · subst hj
    by_cases hi : i < δ.length
    · rw [List.getElem?_set_self hi] at e; cases e
    · rw [List.getElem?_eq_none (by rw [List.length_set]; omega)] at e; cases e
  · rw [List.getElem?_set_ne hj] at e
    obtain ⟨v, q, p⟩ := h.2 j R e
    exact ⟨v, by rw [List.getElem?_set_ne hj]; exact q, p⟩
end
end Nd

namespace L2
open PySem PySem.Spec PyProof.Rows
section
variable {X : Cx} {CX : CXT} {k n : Nat} {f C : Addr} {fd : FuncData} {ps ks : List Str} {sp : Sp} {E : St → XK} {x mn : Str} {p pos apos : Pos} {e o : Expr} {es : List Expr} {kws : List Keyword} {ta : TE} {t tk : TA} {g : List Value → List Value → List Value} {gV : List V → List V → List V}
def tCallKS (n m : Nat) (sp : Sp) (gV : List V → List V → List V) (E : St → XK) (t tk : TA) : TE := fun σ H Q => t σ H fun vs H1 => tk σ H1 fun zs H2 => vs.length = n ∧ zs.length = m ∧ sp (gV vs zs) H2 Q (E σ)
def tMakeS (C : Addr) (n m : Nat) (sp : Sp) (gV : List V → List V → List V) (E : St → XK) (t tk : TA) : TE := fun σ H Q => t σ H fun vs H1 => tk σ H1 fun zs H2 => vs.length = n ∧ zs.length = m ∧
  ∀ x dx, H2 x = none → H2 dx = none → dx ≠ x → sp (gV (.ref x :: vs) zs) (upd (upd H2 dx (.own x)) x (.ins C dx [])) (fun v H3 => v = .non ∧ Q (.ref x) H3) (E σ)
def tMtS (C : Addr) (mn : Str) (n m : Nat) (sp : Sp) (gV : List V → List V → List V) (E : St → XK) (ta : TE) (t tk : TA) : TE := fun σ H Q => ta σ H fun x H0 => ∃ a dx fs, x = .ref a ∧ H0 a = some (.ins C dx fs) ∧ fs.lookup mn = none ∧
  t σ H0 fun vs H1 => tk σ H1 fun zs H2 => vs.length = n ∧ zs.length = m ∧ sp (gV (x :: vs) zs) H2 Q (E σ)
end
end L2

namespace Nd
open PySem L2 PyProof.Rows
section
variable {K : PySem.W.Frag} {m : Md} {E : XK} {δ : List (Option Pd)} {ta tb tc te : TE} {t u : TT} {P R S T : Pd} {t1 t2 : TS} {O : Ou} {C : Addr}
def dq (K : PySem.W.Frag) (d : PyData) : Pd := ⟨fun v G => Dq K G v d, fun _ _ _ h s => Dq.mono s h⟩
theorem EvD.q {d : PyData} (h : EvD m te δ (dd K d)) : EvD m te δ (dq K d) := h.to fun v G p => Dp.q p
theorem All2.append {G : Hp} : ∀ {vs ws : List V} {Ps Qs : List Pd}, All2 G vs Ps → All2 G ws Qs → All2 G (vs ++ ws) (Ps ++ Qs)
  | _, _, _, _, .nil, h => h
  | _, _, _, _, .cons a t, h => .cons a (All2.append t h)
theorem All2.take {G : Hp} : ∀ {vs : List V} {Ps : List Pd} (n : Nat), All2 G vs Ps → All2 G (vs.take n) (Ps.take n)
  | _, _, 0, _ => .nil
  | _, _, _ + 1, .nil => .nil
  | _, _, n + 1, .cons h t => .cons h (All2.take n t)
theorem All2.drop {G : Hp} : ∀ {vs : List V} {Ps : List Pd} (n : Nat), All2 G vs Ps → All2 G (vs.drop n) (Ps.drop n)
  | _, _, 0, h => h
  | _, _, _ + 1, .nil => .nil
  | _, _, n + 1, .cons _ t => All2.drop n t
theorem All2.get {G : Hp} : ∀ {vs : List V} {Ps : List Pd} {i : Nat} {P : Pd}, All2 G vs Ps → Ps[i]? = some P → ∃ v, vs[i]? = some v ∧ P.φ v G
  | _, _, _, _, .nil, e => by simp at e
  | _, _, 0, _, .cons h _, e => by simp at e; subst e; exact ⟨_, rfl, h⟩
  | _, _, i + 1, P, .cons _ t, e => by
    obtain ⟨v, h1, h2⟩ := All2.get (i := i) (P := P) t (by simpa using e)
    exact ⟨v, by simpa using h1, h2⟩
def SttI (H : Hp) (st : Addr) : Prop := ∃ (big s k : Int), H st = some (.lst [.int big, .int s, .int k]) ∧ 0 ≤ big ∧ 0 ≤ s ∧ s < 2147483563 ∧ 0 ≤ k
structure Tk (m : Md) (st : Addr) : Prop where
  chg : m.chg st
  inv : ∀ H, m.inv H → SttI H st
  back : ∀ H H', m.inv H → (∀ a o, a ≠ st → H a = some o → H' a = some o) → SttI H' st → m.inv H'
def Md.stt (m : Md) (st : Addr) (n : ¬ m.dep st) : Md where
  chg := fun a => m.chg a ∨ a = st
  dep := fun a => m.dep a ∨ a = st
  inv := fun H => m.inv H ∧ SttI H st
  sub := fun a h => h.imp (m.sub a) id
  mono := fun H H' h k => ⟨m.mono H H' h.1 fun a o d => k a o (.inl d), let ⟨b, s, j, e, r⟩ := h.2; ⟨b, s, j, k st _ (.inr rfl) e, r⟩⟩
  has := fun H a h d => d.elim (fun z => m.has H a h.1 z) fun z => by subst z; obtain ⟨b, s, j, e, r⟩ := h.2; exact ⟨_, e⟩
theorem Tk.hold {st D : Addr} {o : HO} (d : Tk m st) (h : ¬ m.dep D) : Tk (m.hold D o) st :=
  ⟨.inl d.chg, fun H x => d.inv H x.1, fun H H' x k s => ⟨d.back H H' x.1 k s, k D o (fun z => h (by rw [z]; exact m.sub _ d.chg)) x.2⟩⟩
end
section
variable {K : PySem.W.Frag}
theorem fng_ok {P : Program} {w : World} {mg : Str → Option Value} {base : Heap} {CX : CXT} {x qual : Str} {params : Arguments} {body : List Stmt} {scope : Scope} {dvs : List V} {kws : List (Str × V)} {f : Addr} {fd : FuncData} {N ps : List Str} {k : Nat} {sp : Sp}
    (Fn : FunD K x qual params body scope dvs kws f fd) (Sc : FnScope N ps scope) (len : ∀ vs H Q E, sp vs H Q E → vs.length = ps.length)
    (hbody : ∀ (cdv : Value) (A : Around) (outer : List Env) (s : Shared) (H : Hp) (vs : List V) (Q : VK) (E : XK), Room k (A.deeper (envOfC qual scope s.heap.objs.size f cdv)) → A.guards = some [] → sp vs H Q E →
      ∃ t, PSs (cxOf CX P w K mg base N qual scope f cdv A outer s H E) body t ∧ t { nx := fun _ H' => Q .non H', rt := Q } (start N vs) H) : FnG P w K mg base CX (k + 1) f fd ps sp := by
  obtain ⟨oc, od, dV, kV, doc, pm, an, cdv, ct, osl, rfl, lk, hcd, _, _⟩ := Fn.ex
  exact fng_of lk hcd Sc len fun A outer s H vs Q E hr hg hsp => hbody cdv A outer s H vs Q E hr hg hsp
end
end Nd

namespace L2
open PySem PySem.Spec PyProof.Rows
def pick {α : Type} (idx : List Nat) (l : List α) : List α := idx.filterMap fun j => l[j]?
theorem vals_get : ∀ {vs : List V} {us : List Value}, Vals vs us → ∀ j : Nat, (vs[j]? = none ∧ us[j]? = none) ∨ ∃ v u, vs[j]? = some v ∧ us[j]? = some u ∧ RelV v u
  | _, _, .nil, j => .inl ⟨by simp, by simp⟩
  | _, _, .cons r t, 0 => .inr ⟨_, _, rfl, rfl, r⟩
  | _, _, .cons r t, j + 1 => by simpa using vals_get t j
theorem vals_pick {vs : List V} {us : List Value} (h : Vals vs us) : ∀ idx : List Nat, Vals (pick idx vs) (pick idx us)
  | [] => .nil
  | j :: r => by
    unfold pick
    rcases vals_get h j with ⟨e1, e2⟩ | ⟨v, u, e1, e2, rv⟩
    · rw [List.filterMap_cons_none e1, List.filterMap_cons_none e2]; exact vals_pick h r
    · rw [List.filterMap_cons_some e1, List.filterMap_cons_some e2]; exact .cons rv (vals_pick h r)
section
variable {K : PySem.W.Frag} {x qual : Str} {params : Arguments} {body : List Stmt} {scope : Scope} {dvs : List V} {kws : List (Str × V)} {f : Addr} {fd : FuncData} {ps : List Str}
theorem FunD.kbp (F : FunD K x qual params body scope [] kws f fd) (n : Nat) (ks : List Str) (idx : List Nat)
    (h : ∀ (kV doc pm : Value) (an : Option Addr) (cdv ct : Value) (us ws : List Value), us.length = n → ws.length = ks.length → bindArgs (PySem.W.fnOf x qual params body scope .none kV doc pm an cdv ct) ⟨us, ks.zip ws⟩ = pure (ps.zip (pick idx (us ++ ws)))) :
    KBn K fd ps n ks (fun us ws => pick idx (us ++ ws)) (fun vs zs => pick idx (vs ++ zs)) := by
  obtain ⟨oc, od, dV, kV, doc, pm, an, cdv, ct, osl, rfl, lk, hcd, hD, hK⟩ := F.ex
  rcases hD with ⟨_, rfl⟩ | ⟨e, _⟩
  · exact ⟨fun s us ws X l1 l2 => .of_eq (h kV doc pm an cdv ct us ws l1 l2), fun r1 r2 => vals_pick (r1.append r2) idx⟩
  · exact absurd rfl e
theorem FunD.kbd (F : FunD K x qual params body scope dvs kws f fd) (n : Nat) (ks : List Str) (idx : List Nat) (hd : dvs ≠ [])
    (h : ∀ (T : Addr) (kV doc pm : Value) (an : Option Addr) (cdv ct : Value) (us its ws : List Value), us.length = n → its.length = dvs.length → ws.length = ks.length →
      ∃ k, bindArgs (PySem.W.fnOf x qual params body scope (.ref T) kV doc pm an cdv ct) ⟨us, ks.zip ws⟩ = seqItems? (.ref T) >>= k ∧ k (some its.toArray) = pure (ps.zip (pick idx (us ++ (its ++ ws))))) :
    ∃ its : List Value, KBn K fd ps n ks (fun us ws => pick idx (us ++ (its ++ ws))) (fun vs zs => pick idx (vs ++ (dvs ++ zs))) :=
  F.kbindsD n ks (fun us its ws => pick idx (us ++ (its ++ ws))) hd (fun r1 r2 r3 => vals_pick (r1.append (r2.append r3)) idx) h
end
section
variable {X : Cx} {σ : St} {E : XK} {K : PySem.W.Frag}
theorem passNo : PassesAt (L2.CX X.prog X.w) X σ (fun _ _ _ => False) := fun _ _ _ _ _ _ h => by
  obtain ⟨a, B, H', cls, d, _, _, _, _, _, _, _, z⟩ := h
  exact z.elim
theorem passAtX {CX : CXT} (h : Passes CX X E) : PassesAt CX X σ E := fun pins H s e s' I c => h pins σ H s e s' I c
end
end L2

namespace L2
open PySem PySem.Spec PyProof.Rows
section
variable {X : Cx} {K : PySem.W.Frag} {x n : Str} {c : Value} {i : Nat} {body suite : List Stmt} {b₀ : Stmt} {np pos pos' : Pos} {tb : WX → TS} {ts : Addr → Value → Option Addr → TS} {Wout : WX}
end
end L2
namespace Nd
open PySem L2 PyProof.Rows
section
variable {K : PySem.W.Frag} {m : Md} {E : XK} {δ : List (Option Pd)} {ta tb tc te : TE} {t u : TT} {P R S T : Pd} {t1 t2 : TS} {O : Ou} {C Co : Addr} {W : WX} {Es : L2.St → XK}
theorem dec_str (x y : Str) : decide (V.str x = V.str y) = decide (x = y) := by
  by_cases h : x = y
  · subst h; simp
  · rw [decide_eq_false h, decide_eq_false fun z => h (V.str.inj z)]
end
end Nd
namespace L2
open PySem PySem.Spec PyProof.Rows
end L2

namespace L2
open PySem PySem.Spec PyProof.Rows
abbrev Suite := Addr → Value → Option Addr → TS
def bareE (D : Ends) (i : Nat) : Ends := { nx := fun σ' H' => D.nx (σ'.set i none) H', rt := D.rt, bk := fun σ' H' => D.bk (σ'.set i none) H', ct := fun σ' H' => D.ct (σ'.set i none) H' }
def wEach (K : PySem.W.Frag) (i : Nat) (Wout : WX) (D : Ends) : List (Value × Suite) → WX
  | [] => Wout
  | (c, ts) :: r => fun cls d σ H => ∃ b, PySem.W.exmOne K cls c = some b ∧ (b = true → ∀ a, H a = none → ts a cls d (bareE D i) (σ.set i (some (.ref a))) H) ∧ (b = false → wEach K i Wout D r cls d σ H)
inductive Hds (X : Cx) (n : Str) : List ExceptHandler → List (Value × Suite) → Prop
  | nil : Hds X n [] []
  | cons {x : Str} {c : Value} {ts : Suite} {b₀ : Stmt} {suite : List Stmt} {np pos' : Pos} {hds : List ExceptHandler} {l : List (Value × Suite)} (hc : Names X x c)
      (hsu : ∀ (a : Addr) (oe : Obj) (cls : Value) (d : Option Addr) (pn : List (Addr × Obj)), Zc cls d oe → (∃ vs, oe.data = .fields vs) → PSs (X.suite a ((a, oe) :: pn)) (b₀ :: suite) (ts a cls d)) (r : Hds X n hds l) :
      Hds X n (.ExceptHandler (some (.Name x np)) (some n) (b₀ :: suite) pos' :: hds) ((c, ts) :: l)
structure Caught (X : Cx) (pins : List (Addr × Obj)) (σ : St) (H : Hp) (s : Shared) (B : Heap) (a : Addr) (cls : Value) (d : Option Addr) (h : Heap) : Prop where
  fl : HandSPX.FlyingZ B (X.env :: X.outer) a (Zc cls d) h
  na : H a = none
  go : ∀ h', B.StaysIn h' → h.UpToSlots h' → Inv X pins σ H { s with heap := h' }
  out : ∀ {W : WX} (h' : Heap), HandSPX.HeldZ B (X.env :: X.outer) a (Zc cls d) X.env.locals h' → h.UpToSlots h' → W cls d σ H → XE X W (.ref a) { s with heap := h' }
section
variable {X : Cx} {K : PySem.W.Frag} {n : Str} {i : Nat} {body : List Stmt} {h₀ : ExceptHandler} {hds : List ExceptHandler} {l : List (Value × Suite)} {pos : Pos} {tb : WX → TS} {Wout : WX}
  {pins : List (Addr × Obj)} {σ : St} {H : Hp} {D : Ends} {s : Shared} {B h : Heap} {a : Addr} {cls : Value} {d : Option Addr}
theorem Caught.away (c : Caught X pins σ H s B a cls d h) (hf : X.env.frame = some X.env.locals) : a ≠ X.env.locals ∧ a ∉ X.fs := by
  obtain ⟨oe, vs, he, hz, hd⟩ := c.fl.there
  have key : a ∉ frs (X.env :: X.outer) := fun hm => by
    obtain ⟨_, o', e', hnf⟩ := c.fl.2.2.1.mem hm
    rw [he] at e'
    cases e'
    exact hnf _ hd
  refine ⟨fun z => key (List.mem_filterMap.mpr ⟨X.env, List.mem_cons_self, by rw [hf, z]⟩), fun hm => ?_⟩
  obtain ⟨e, he, q⟩ := List.mem_filterMap.mp hm
  exact key (List.mem_filterMap.mpr ⟨e, List.mem_cons_of_mem _ he, q⟩)
theorem Caught.inv (c : Caught X pins σ H s B a cls d h) : Inv X pins σ H { s with heap := h } := c.go h c.fl.1 (Heap.UpToSlots.of_keeps fun _ _ e => e)
theorem Caught.none_ (c : Caught X pins σ H s B a cls d h) (hf : X.env.frame = some X.env.locals) (tk : Takes X Wout) (w : Wout cls d σ H) : wpAny (model X.prog X.w) X.A (handleBy (.ref a) X.env []) (SP X pins D) X.xe { s with heap := h } := by
  refine wpAny_handleBy_nil ?_
  obtain ⟨k1, k2, k3, oe, vs, T, oT, ts', he, hz, hd, h1, hr⟩ := id c.fl
  unfold PySem.passOn
  refine wpAny_bind (wpAny_field he hd h1 ?_)
  rw [if_neg (show ¬ ((Value.ref T == Value.none) = true) from by simp)]
  have fin : wpAny (model X.prog X.w) X.A (setFlight (.ref a) X.env.frame) (fun _ s4 => wpAny (model X.prog X.w) X.A (throw (.ref a) : Sem Flow) (SP X pins D) X.xe s4) X.xe { s with heap := h } := by
    rw [hf]
    exact HandSPX.setFlight_upZ c.fl fun h4 hh4 up4 => wpAny_throw (tk _ _ (c.out h4 hh4 up4 w))
  first
    | exact wpAny_bind (wpAny_pure (wpAny_bind fin))
    | exact wpAny_bind fin
theorem Caught.each (hf : X.env.frame = some X.env.locals) (hN : X.N.Nodup) (hi : X.N[i]? = some n) (hln : X.env.kindOf n = some .local) (tk : Takes X Wout) (ok : X.Ok) (c : Caught X pins σ H s B a cls d h) :
    ∀ {hds : List ExceptHandler} {l : List (Value × Suite)}, Hds X n hds l → wEach X.K i Wout D l cls d σ H → wpAny (model X.prog X.w) X.A (handleBy (.ref a) X.env hds) (SP X pins D) X.xe { s with heap := h } := by
  obtain ⟨nL, nF⟩ := c.away hf
  obtain ⟨oe3, vs3, he3, hz3, hd3⟩ := c.fl.there
  have S3 := c.inv.suite he3 hd3 c.na nL nF
  intro hds l hk
  induction hk with
  | nil => exact fun w => c.none_ hf tk w
  | @cons x cv ts b₀ suite np pos' hds2 l2 hc hsu r ih =>
    rintro ⟨b, hb1, hyes, hno⟩
    refine wpAny_handleBy_cons (codeAny_handlers_test ?_) (by intro q; cases q)
    have LT : PySem.W.Looks (model X.prog X.w) h (typeOf (.ref a)) cls := fun A Q E s k q => wpAny_typeOf_ref (k _ _ he3) (by rw [hz3.1]; exact q)
    have LM := PySem.W.exm_one (M := model X.prog X.w) c.inv.kIn LT hb1
    have test : ∀ {Q : Value → Shared → Prop} {E : Value → Shared → Prop}, Q cv { s with heap := h } → wpAny (model X.prog X.w) (X.A.mark (some (.ref a))) (eval (.Name x np) X.env) Q E { s with heap := h } := fun {Q E} q => by
      obtain ⟨hg, hdbg, hm | ⟨hm, hv, hnn⟩⟩ := hc
      · exact ld_glob (X := X.suite a ((a, oe3) :: (X.pn ++ pins))) S3 hg hm q hdbg
      · exact ld_blt (X := X.suite a ((a, oe3) :: (X.pn ++ pins))) S3 hg hm hv q hnn hdbg
    refine test (LM.here ?_)
    cases b with
    | false => exact ih (hno rfl)
    | true =>
      refine codeAny_handlers_suite_as (HandSPX.lands_againZ c.fl fun h4 fl4 up4 => ?_)
      obtain ⟨oe4, vs4, he4, hz4, hd4⟩ := fl4.there
      have S4 := (c.go h4 fl4.1 up4).suite he4 hd4 c.na nL nF
      refine store_ok (X := X.suite a ((a, oe4) :: (X.pn ++ pins))) (v := .ref a) S4 hN hi (.inl hln) rfl (fun s5 S5 => ?_) (.inr hln)
      refine wpAny_mono ((hsu a oe4 cls d (X.pn ++ pins) hz4 ⟨_, hd4⟩).run [] s5 _ H _ S5 (hyes rfl a c.na)) (fun f s6 hsp => ?_) (fun _ _ z => False.elim z)
      have off : ∀ {σ6 : St} {H6 : Hp} {Q : Shared → Prop}, Inv (X.suite a ((a, oe4) :: (X.pn ++ pins))) [] σ6 H6 s6 → (∀ s7, Inv X pins (σ6.set i none) H6 s7 → Q s7) →
          wpAny (model X.prog X.w) X.A (do bindName X.env n .none; unbindBehindTheSuite X.env n pos') (fun _ s7 => Q s7) X.xe s6 := fun S6 hq => gone_ok (S6.unsuite ok) hN hi hln hq
      cases f with
      | ret u => obtain ⟨v6, σ6, H6, S6, r6, q6⟩ := hsp; exact off S6 fun s7 J7 => ⟨_, _, _, J7, r6, q6⟩
      | _ => obtain ⟨σ6, H6, S6, q6⟩ := hsp; exact off S6 fun s7 J7 => ⟨_, _, J7, q6⟩
end
end L2
namespace Nd
open PySem L2 PyProof.Rows
section
variable {K : PySem.W.Frag} {m : Md} {E : XK} {δ : List (Option Pd)} {P : Pd} {O : Ou} {C : Addr} {i : Nat} {Wout : WX}
end
end Nd

namespace Nd
open PySem L2 PyProof.Rows
abbrev Io := List (Addr × HO)
def adr (ι : Io) : List Addr := ι.map (·.1)
def holds (m : Md) (ι : Io) : Md where
  chg := fun a => m.chg a ∨ a ∈ adr ι
  dep := fun a => m.dep a ∨ a ∈ adr ι
  inv := fun H => m.inv H ∧ ∀ q ∈ ι, H q.1 = some q.2
  sub := fun a h => h.imp (m.sub a) id
  mono := fun H H' h k => ⟨m.mono H H' h.1 fun a o d => k a o (.inl d), fun q hq => k q.1 q.2 (.inr (List.mem_map.mpr ⟨q, hq, rfl⟩)) (h.2 q hq)⟩
  has := fun H a h d => d.elim (fun z => m.has H a h.1 z) fun z => by
    obtain ⟨q, hq, rfl⟩ := List.mem_map.mp z
    exact ⟨_, h.2 q hq⟩
structure Apart (m : Md) (ι : Io) : Prop where
  nd : ∀ p ∈ adr ι, ¬ m.dep p
  un : (adr ι).Nodup
structure GoO (m : Md) (ps : List Addr) (G H G' H' : Hp) : Prop where
  gg : Same G G'
  gh : Same G' H'
  fr : ∀ a o, G' a = some o → G a = none → H a = none ∨ a ∈ ps
  r : ∀ a o, ¬ m.chg a → a ∉ ps → H a = some o → H' a = some o
  iv : m.inv H'
  dm : ∀ a, H' a = none → H a = none
section
variable {m : Md} {ps ps1 ps2 : List Addr} {G H G1 H1 G2 H2 : Hp} {ι : Io}
theorem GoO.more (t : GoO m ps G H G1 H1) (nw : ∀ p ∈ ps1, p ∈ ps ∨ H p = none) (u : GoO m ps1 G1 H1 G2 H2) : GoO m ps G H G2 H2 where
  gg := t.gg.trans u.gg
  gh := u.gh
  fr := fun a o h n => by
    cases q : G1 a with
    | some o' => exact t.fr a o' q n
    | none => exact (u.fr a o h q).elim (fun z => .inl (t.dm a z)) fun z => (nw a z).symm
  r := fun a o e z h => u.r a o e (fun w => (nw a w).elim z fun v => by rw [v] at h; cases h) (t.r a o e z h)
  iv := u.iv
  dm := fun a h => t.dm a (u.dm a h)
theorem Go.o (t : Go (holds m ι) G H G1 H1) : GoO m (adr ι) G H G1 H1 where
  gg := t.gg
  gh := t.gh
  fr := fun a o h n => .inl (t.fr a o h n)
  r := fun a o e z h => t.r a o (fun w => w.elim e z) h
  iv := t.iv.1
  dm := fun a h => t.dom h
end
structure Oo where
  nx : Io → List (Option Pd) → Prop := fun _ _ => False
  rt : Pd → Prop := fun _ => False
  bk : Io → List (Option Pd) → Prop := fun _ _ => False
  ct : Io → List (Option Pd) → Prop := fun _ _ => False
  ex : Addr → Pd → Prop := fun _ _ => False
structure StO (m : Md) (ps : List Addr) (G H : Hp) (ι : Io) (δ : List (Option Pd)) (σ : L2.St) (G' H' : Hp) : Prop where
  go : GoO m ps G H G' H'
  nw : ∀ p ∈ adr ι, p ∈ ps ∨ H p = none
  ap : Apart m ι
  cn : Cn (holds m ι) G' H'
  sl : Sl G' σ δ
structure KxO (m : Md) (ps : List Addr) (G H : Hp) (O : Oo) (E : XK) (D : Ends) : Prop where
  nx : ∀ ι δ σ G' H', O.nx ι δ → StO m ps G H ι δ σ G' H' → D.nx σ H'
  rt : ∀ S v G' H', O.rt S → GoO m ps G H G' H' → S.φ v G' → D.rt v H'
  bk : ∀ ι δ σ G' H', O.bk ι δ → StO m ps G H ι δ σ G' H' → D.bk σ H'
  ct : ∀ ι δ σ G' H', O.ct ι δ → StO m ps G H ι δ σ G' H' → D.ct σ H'
  ex : ∀ C P d v G' H', O.ex C P → GoO m ps G H G' H' → Fl m d v P G' H' → E (.ref C) (some d) H'
theorem StO.more {m : Md} {ps ps1 : List Addr} {G H G1 H1 G' H' : Hp} {ι : Io} {δ : List (Option Pd)} {σ : L2.St} (t : GoO m ps G H G1 H1) (nw : ∀ p ∈ ps1, p ∈ ps ∨ H p = none) (s : StO m ps1 G1 H1 ι δ σ G' H') : StO m ps G H ι δ σ G' H' :=
  ⟨t.more nw s.go, fun p hp => (s.nw p hp).elim (nw p) fun z => .inr (t.dm p z), s.ap, s.cn, s.sl⟩
theorem KxO.go {m : Md} {ps ps1 : List Addr} {G H G1 H1 : Hp} {O : Oo} {E : XK} {D : Ends} (k : KxO m ps G H O E D) (t : GoO m ps G H G1 H1) (nw : ∀ p ∈ ps1, p ∈ ps ∨ H p = none) : KxO m ps1 G1 H1 O E D :=
  ⟨fun ι δ σ G' H' h s => k.nx ι δ σ G' H' h (s.more t nw), fun S v G' H' h g p => k.rt S v G' H' h (t.more nw g) p, fun ι δ σ G' H' h s => k.bk ι δ σ G' H' h (s.more t nw), fun ι δ σ G' H' h s => k.ct ι δ σ G' H' h (s.more t nw),
    fun C P d v G' H' h g f => k.ex C P d v G' H' h (t.more nw g) f⟩
section
variable {K : PySem.W.Frag} {m : Md} {E : XK} {δ : List (Option Pd)} {ι : Io} {ta tb tc te : TE} {t u : TT} {P R S T : Pd} {t1 t2 : TS} {O : Oo} {C : Addr}
end
theorem set_same {α : Type} : ∀ {l : List α} {i : Nat} {x : α}, l[i]? = some x → l.set i x = l
  | [], _, _, h => by simp at h
  | a :: r, 0, x, h => by simp at h; subst h; rfl
  | a :: r, i + 1, x, h => by rw [List.set_cons_succ, set_same (by simpa using h)]
def rep (ι : Io) (p : Addr) (o : HO) : Io := ι.map fun q => if q.1 = p then (p, o) else q
section
variable {K : PySem.W.Frag} {m : Md} {E : XK} {δ : List (Option Pd)} {ι : Io} {ta tb tc te : TE} {t u : TT} {P R S T : Pd} {t1 t2 : TS} {O : Oo} {C : Addr}
theorem Cn.at_ {G H : Hp} {p : Addr} {o : HO} (c : Cn (holds m ι) G H) (h : (p, o) ∈ ι) : H p = some o := c.iv.2 _ h
end
end Nd

namespace PySem
namespace OweX
open PySem.W PySem.Calls PyProof.Rows PySem.HandSPX
section
variable {M : Model} {A : Around} {E : Value → Shared → Prop} {h : Heap} {g : Array GenState} {d : Drawn} {t : Nat} {os : OsState} {prog : Program} {w : World} {R : Result → Shared → Prop}
variable {nm q : Str} {C N : Addr} {bs bm bmB : List Value} {hdct : Bool} {sn : List Str} {sub : List Value} {ab : Bool} {col : Option Bool} {dd : Option Addr} {k0 k1 k2 k3 k5 : Option Value} {B newId initId : String}
end
end OweX
end PySem
namespace PySem
namespace OweX
open PySem.W PySem.Calls PyProof.Rows PySem.HandSPX
section
variable {prog : Program} {w : World} {A : Around} {E : Value → Shared → Prop} {R : Result → Shared → Prop} {s : Shared} {K : Frag} {mg : Str → Option Value} {D C fI : Addr} {base : Heap}
inductive Ask (v : Value) : Args → Prop
  | pos : Ask v ⟨[v], []⟩
  | kw : Ask v ⟨[], [("what", v)]⟩
  | non : v = .none → Ask v ⟨[], []⟩
theorem Ask.size {v : Value} {a : Args} (h : Ask v a) : a.pos.length ≤ sizeLine := by
  rw [sizeLine_eq]
  cases h <;> simp
end
end OweX
end PySem

namespace L2
open PySem PySem.Spec PyProof.Rows
section
variable {X : Cx} {D C fI : Addr} {x : Str} {K : PySem.W.Frag}
end
end L2

namespace Nd
open PySem L2 PyProof.Rows
section
variable {K : PySem.W.Frag} {m : Md} {E : XK} {δ : List (Option Pd)} {ta tb tc te : TE} {t u : TT} {P R S T : Pd} {t1 t2 : TS} {C D fI : Addr}
end
end Nd

namespace L2
open PySem PySem.Spec PyProof.Rows
def NewT (xs : List V) (H : Hp) (Q : VK) : Prop := (∀ p, H p = none → Q (.ref p) (upd H p (.tup xs))) ∨ ∀ p (o : Obj), H p = none → o.dict = none → Q (.ref p) (upd H p (.frz o (.tup xs)))
section
variable {X : Cx} {K : PySem.W.Frag}
theorem newT_ok {pins : List (Addr × Obj)} {σ : St} {H : Hp} {s : Shared} {Q : VK} {xs : List V} {its : List Value} {h' : Heap} {t' : Nat} {o : Obj} {n : Nat} (I : Inv X pins σ H s) (k : ∀ b u, s.heap.get? b = some u → h'.get? b = some u) (ho : h'.get? s.heap.objs.size = some o) (hc : o.cls = .type "tuple") (hd : o.data = .seq its.toArray n) (hn : o.dict = none) (r : Vals xs its) (z : xs.length ≤ sizeLine) (q : NewT xs H Q) :
    EP X pins σ Q (.ref s.heap.objs.size) { s with heap := h', toks := t' } := by
  have fr : H s.heap.objs.size = none := I.hok.fresh (Nat.le_refl _)
  have tp : PyProof.Rows.IsTup h' s.heap.objs.size its.toArray := ⟨o, ho, hc, n, hd⟩
  rcases q with q | q
  · have J := I.laid (t' := t') (o := .tup xs) k (Nat.le_refl _) ⟨z, its, r, tp⟩
    exact ⟨.ref _, _, J, rfl, q _ fr⟩
  · have J := I.laid (t' := t') (o := .frz o (.tup xs)) k (Nat.le_refl _) ⟨ho, z, its, r, tp⟩
    exact ⟨.ref _, _, J, rfl, q _ o fr hn⟩
theorem newT_push {pins : List (Addr × Obj)} {σ : St} {H : Hp} {s : Shared} {Q : VK} {xs : List V} {its : List Value} (I : Inv X pins σ H s) (r : Vals xs its) (z : xs.length ≤ sizeLine) (q : NewT xs H Q) :
    EP X pins σ Q (.ref s.heap.objs.size) { s with heap := s.heap.push { cls := .type "tuple", data := .seq its.toArray } } :=
  newT_ok (t' := s.toks) I (fun b u e => Heap.get?_push_of_some _ e) (Heap.get?_push_size _ rfl) rfl rfl rfl r z q
def tTupN (t : TA) : TE := fun σ H Q => t σ H fun xs H1 => xs.length ≤ sizeLine ∧ NewT xs H1 Q
theorem pe_tupN {es : List Expr} {t : TA} {pos : Pos} {x1} (h : PA X es t) : PE X (.Tuple es x1 pos) (tTupN t) := by
  constructor
  intro pins s σ H Q I hq
  refine wpAny_Tuple_spliced (thn (h.run pos pins s σ H _ I hq) ?_)
  rintro us s1 ⟨xs, H1, I1, r, z, q⟩
  exact ⟨by rw [← r.length]; exact z, newT_push I1 r z q⟩
def rSlN (K : PySem.W.Frag) : V → Option Int → Option Int → Hp → VK → Prop := fun x lo hi H Q => ∃ a xs, x = .ref a ∧ SqT K H a xs ∧
  (HT.sIx xs.length 0 lo = 0 ∧ HT.sIx xs.length xs.length hi = xs.length → Q (.ref a) H) ∧ (¬ (HT.sIx xs.length 0 lo = 0 ∧ HT.sIx xs.length xs.length hi = xs.length) → NewT (cutV xs lo hi) H Q)
theorem sl_tupN (hK : X.K = K) : SlR X (rSlN K) := by
  subst hK
  intro pins s σ H x v vl vu lo hi sl Q I rx hs pl pu h
  obtain ⟨a, xs, rfl, hx, q1, q2⟩ := h
  cases rx
  obtain ⟨its, r, ht, hz⟩ := I.tuple hx
  have el : its.toArray.size = xs.length := by rw [List.size_toArray, r.length]
  refine ⟨"tuple", _, PyProof.Rows.slot_tuple_getitem.lookup, ht.typeIs, ?_⟩
  by_cases hw : HT.sIx xs.length 0 lo = 0 ∧ HT.sIx xs.length xs.length hi = xs.length
  · exact getItem_tuple_whole ht hs pl pu (by rw [el]; exact hw) ⟨.ref a, H, I, rfl, q1 hw⟩
  · refine HT.getItem_tuple_cut ht hs pl pu (by rw [el]; exact hw) ?_ (by rw [el]; exact hz)
    rw [el]
    have rc := (r.drop (HT.sIx xs.length 0 lo)).take (HT.sIx xs.length xs.length hi - HT.sIx xs.length 0 lo)
    exact newT_ok (t' := s.toks) I (fun b u e => Heap.get?_push_of_some _ e) (Heap.get?_push_size _ rfl) rfl rfl rfl rc (Nat.le_trans (cutV_length xs lo hi) hz) (q2 hw)
def rCatN (K : PySem.W.Frag) : R2 := fun x y H Q => ∃ a b xs ys, x = .ref a ∧ y = .ref b ∧ SqT K H a xs ∧ SqT K H b ys ∧ xs.length + ys.length ≤ sizeLine ∧
  (xs = [] → Q (.ref b) H) ∧ (xs ≠ [] → ys = [] → Q (.ref a) H) ∧ (xs ≠ [] → ys ≠ [] → NewT (xs ++ ys) H Q)
theorem op_catN (hK : X.K = K) : OpR X (binaryOp .Add) (rCatN K) := by
  subst hK
  intro pins s σ H x y v u Q I rx ry h
  obtain ⟨a, b, xs, ys, rfl, rfl, ha, hb, hz, q0, q1, q2⟩ := h
  cases rx
  cases ry
  obtain ⟨i1, r1, p1, _⟩ := I.tuple ha
  obtain ⟨i2, r2, p2, _⟩ := I.tuple hb
  by_cases hx : xs = []
  · subst hx
    cases r1
    exact cat_tup0 p1 p2 ⟨.ref b, H, I, rfl, q0 rfl⟩
  · refine HT.cat_tup p1 p2 (fun z => hx (r1.nil_iff.mp z)) (fun z => ⟨.ref a, H, I, rfl, q1 hx (r2.nil_iff.mp z)⟩) (fun z => ?_) (by rw [← r1.length, ← r2.length]; exact hz)
    exact newT_ok (t' := s.toks) I (fun b u e => Heap.get?_push_of_some _ e) (Heap.get?_push_size _ rfl) rfl rfl rfl (r1.append r2) (by rw [List.length_append]; exact hz) (q2 hx fun w => z (r2.nil_iff.mpr w))
end
end L2

namespace Vs
open PySem L2

inductive D where
  | non | bl (b : Bool) | int (i : Int) | str (x : Str) | ty (n : String) | glo (x : Str)
  | tup (l : List D) | htp (l : List D) | pr (a b : D) | lst (l : List D) | dic (l : List (D × D)) | dit (l : List (D × D)) | set (l : List D)
  | scr (l : List D) | ins (c : Str) (l : List (Str × D)) | err (c : Str) (w : D) | rng (lo hi : Int) | fun_ (n : Nat) (l : List D)
inductive M where
  | fz
  | nd (w : Bool) (ch : List M)
inductive Slt where
  | val (d : D) (m : M)
  | cau (w : D)
abbrev Env := List (Option Slt)
abbrev CxA := Option (Addr × Addr)


def core : HO → HO
  | .frz _ (.dK kvs) => .dK kvs
  | .frz _ (.dT kvs) => .dT kvs
  | o => o
def Lk (o o' : HO) : Prop := core o = core o'
def Le (G G' : Hp) : Prop := ∀ a o, G a = some o → ∃ o', G' a = some o' ∧ Lk o o'
theorem Lk.trans {a b c : HO} (h : Lk a b) (k : Lk b c) : Lk a c := Eq.trans h k
theorem Le.refl (G : Hp) : Le G G := fun a o h => ⟨o, h, rfl⟩
theorem Le.trans {G G1 G2 : Hp} (h : Le G G1) (k : Le G1 G2) : Le G G2 := fun a o e => by
  obtain ⟨o1, e1, l1⟩ := h a o e
  obtain ⟨o2, e2, l2⟩ := k a o1 e1
  exact ⟨o2, e2, l1.trans l2⟩
theorem Le.of {G G' : Hp} (h : Same G G') : Le G G' := fun a o e => ⟨o, h a o e, rfl⟩
def Plain (o : HO) : Prop := ∀ o', core o' = o → o' = o
theorem plain_of {o : HO} (h : core o = o) (h1 : ∀ kvs, o ≠ .dK kvs) (h2 : ∀ kvs, o ≠ .dT kvs) : ∀ o', Lk o o' → o' = o := fun o' l => by
  have l' : o = core o' := h.symm.trans l
  unfold core at l'
  split at l'
  · exact (h1 _ l').elim
  · exact (h2 _ l').elim
  · exact l'.symm
theorem Le.plain {G G' : Hp} (h : Le G G') {a : Addr} {o : HO} (e : G a = some o) (hc : core o = o) (h1 : ∀ kvs, o ≠ .dK kvs) (h2 : ∀ kvs, o ≠ .dT kvs) : G' a = some o := by
  obtain ⟨o', e1, l⟩ := h a o e
  rw [plain_of hc h1 h2 o' l] at e1
  exact e1
theorem Le.lst {G G' : Hp} (h : Le G G') {a : Addr} {xs : List V} (e : G a = some (.lst xs)) : G' a = some (.lst xs) := h.plain e rfl (fun _ z => by cases z) fun _ z => by cases z
theorem Le.tup {G G' : Hp} (h : Le G G') {a : Addr} {xs : List V} (e : G a = some (.tup xs)) : G' a = some (.tup xs) := h.plain e rfl (fun _ z => by cases z) fun _ z => by cases z
theorem Le.frzL {G G' : Hp} (h : Le G G') {a : Addr} {ob : Obj} {xs : List V} (e : G a = some (.frz ob (.lst xs))) : G' a = some (.frz ob (.lst xs)) := h.plain e rfl (fun _ z => by cases z) fun _ z => by cases z
theorem Le.ins {G G' : Hp} (h : Le G G') {a C dx : Addr} {fs : List (Str × V)} (e : G a = some (.ins C dx fs)) : G' a = some (.ins C dx fs) := h.plain e rfl (fun _ z => by cases z) fun _ z => by cases z
theorem Le.rng {G G' : Hp} (h : Le G G') {a : Addr} {lo hi : Int} (e : G a = some (.rng lo hi)) : G' a = some (.rng lo hi) := h.plain e rfl (fun _ z => by cases z) fun _ z => by cases z
theorem rd_core {G : Hp} {a : Addr} {o u : HO} (e : G a = some o) (hu : (∃ kvs, u = .dK kvs) ∨ ∃ kvs, u = .dT kvs) : core o = u ↔ Rd G a u := by
  constructor
  · intro h
    unfold core at h
    split at h
    · subst h; exact .inr ⟨_, e⟩
    · subst h; exact .inr ⟨_, e⟩
    · subst h; exact .inl e
  · rintro (h | ⟨ob, h⟩)
    · rw [e] at h; cases h
      rcases hu with ⟨kvs, rfl⟩ | ⟨kvs, rfl⟩ <;> rfl
    · rw [e] at h; cases h
      rcases hu with ⟨kvs, rfl⟩ | ⟨kvs, rfl⟩ <;> rfl
theorem Le.rdU {G G' : Hp} (h : Le G G') {a : Addr} {u : HO} (hu : (∃ kvs, u = .dK kvs) ∨ ∃ kvs, u = .dT kvs) (e : Rd G a u) : Rd G' a u := by
  obtain ⟨o, eo⟩ : ∃ o, G a = some o := by rcases e with e | ⟨ob, e⟩ <;> exact ⟨_, e⟩
  obtain ⟨o', e1, l⟩ := h a o eo
  have c1 := (rd_core eo hu).mpr e
  exact (rd_core e1 hu).mp (l.symm.trans c1)
theorem Le.rd {G G' : Hp} (h : Le G G') {a : Addr} {kvs : List (Key × V)} (e : Rd G a (.dK kvs)) : Rd G' a (.dK kvs) := h.rdU (.inl ⟨_, rfl⟩) e
theorem Le.rdT {G G' : Hp} (h : Le G G') {a : Addr} {kvs : List (List Key × V)} (e : Rd G a (.dT kvs)) : Rd G' a (.dT kvs) := h.rdU (.inr ⟨_, rfl⟩) e
theorem Le.sqL {K : PySem.W.Frag} {G G' : Hp} (h : Le G G') {a : Addr} {xs : List V} (e : SqL K G a xs) : SqL K G' a xs := by
  rcases e with (e | ⟨o, e⟩) | e
  · exact .inl (.inl (h.lst e))
  · exact .inl (.inr ⟨o, h.frzL e⟩)
  · exact .inr e
def kD : Key → D
  | .inl i => .int i
  | .inr x => .str x
def kT (k : List Key) : D := .tup (k.map kD)
def kyD : D → Bool
  | .int _ => true
  | .str _ => true
  | _ => false
def TupAt (G : Hp) (a : Addr) (vs : List V) (ds : List D) : Prop := if ds.all kyD then G a = some (.tup vs) else ∃ o : Obj, G a = some (.frz o (.tup vs)) ∧ o.dict = none
theorem Le.frzT {G G' : Hp} (h : Le G G') {a : Addr} {ob : Obj} {xs : List V} (e : G a = some (.frz ob (.tup xs))) : G' a = some (.frz ob (.tup xs)) := h.plain e rfl (fun _ z => by cases z) fun _ z => by cases z
theorem TupAt.le {G G' : Hp} {a : Addr} {vs : List V} {ds : List D} (h : TupAt G a vs ds) (s : Le G G') : TupAt G' a vs ds := by
  unfold TupAt at h ⊢
  split at h
  · rename_i k; rw [if_pos k]; exact s.tup h
  · rename_i k; rw [if_neg k]; obtain ⟨o, e, n⟩ := h; exact ⟨o, s.frzT e, n⟩
theorem TupAt.rd {G : Hp} {a : Addr} {vs : List V} {ds : List D} (h : TupAt G a vs ds) : Rd G a (.tup vs) := by
  unfold TupAt at h
  split at h
  · exact .inl h
  · obtain ⟨o, e, _⟩ := h; exact .inr ⟨o, e⟩
theorem TupAt.sq {K : PySem.W.Frag} {G H : Hp} {a : Addr} {vs : List V} {ds : List D} (h : TupAt G a vs ds) (s : Same G H) : SqT K H a vs := .inl (h.le (Le.of s)).rd
theorem TupAt.sq0 {K : PySem.W.Frag} {G : Hp} {a : Addr} {vs : List V} {ds : List D} (h : TupAt G a vs ds) : SqT K G a vs := .inl h.rd
theorem TupAt.key {G : Hp} {a : Addr} {vs : List V} {ds : List D} (h : TupAt G a vs ds) (k : ds.all kyD = true) : G a = some (.tup vs) := by
  unfold TupAt at h
  rw [if_pos k] at h
  exact h
theorem TupAt.held {G : Hp} {a : Addr} {vs : List V} {ds : List D} (h : TupAt G a vs ds) (k : ds.all kyD = false) : ∃ o : Obj, G a = some (.frz o (.tup vs)) ∧ o.dict = none := by
  unfold TupAt at h
  rw [if_neg (by rw [k]; exact Bool.false_ne_true)] at h
  exact h
theorem TupAt.mk1 {G : Hp} {a : Addr} {vs : List V} {ds : List D} (k : ds.all kyD = true) (h : G a = some (.tup vs)) : TupAt G a vs ds := by
  unfold TupAt
  rw [if_pos k]
  exact h
theorem TupAt.mk2 {G : Hp} {a : Addr} {vs : List V} {ds : List D} {o : Obj} (k : ds.all kyD = false) (h : G a = some (.frz o (.tup vs))) (n : o.dict = none) : TupAt G a vs ds := by
  unfold TupAt
  rw [if_neg (by rw [k]; exact Bool.false_ne_true)]
  exact ⟨o, h, n⟩
theorem Le.rdTup {G G' : Hp} (h : Le G G') {a : Addr} {xs : List V} (e : Rd G a (.tup xs)) : Rd G' a (.tup xs) := e.elim (fun e => .inl (h.tup e)) fun ⟨o, e⟩ => .inr ⟨o, h.frzT e⟩
def HtpAt (G : Hp) (a : Addr) (vs : List V) : Prop := ∃ o : Obj, G a = some (.frz o (.tup vs)) ∧ o.dict = none
theorem HtpAt.le {G G' : Hp} {a : Addr} {vs : List V} (h : HtpAt G a vs) (s : Le G G') : HtpAt G' a vs := let ⟨o, e, n⟩ := h; ⟨o, s.frzT e, n⟩
theorem HtpAt.rd {G : Hp} {a : Addr} {vs : List V} (h : HtpAt G a vs) : Rd G a (.tup vs) := let ⟨o, e, _⟩ := h; .inr ⟨o, e⟩
theorem HtpAt.sq {K : PySem.W.Frag} {G H : Hp} {a : Addr} {vs : List V} (h : HtpAt G a vs) (s : Same G H) : SqT K H a vs := .inl (h.le (Le.of s)).rd
theorem HtpAt.sq0 {K : PySem.W.Frag} {G : Hp} {a : Addr} {vs : List V} (h : HtpAt G a vs) : SqT K G a vs := .inl h.rd
section
variable (K : PySem.W.Frag)
mutual
inductive Fz (G : Hp) : V → D → Prop
  | non : Fz G .non .non
  | bl (b : Bool) : Fz G (.bl b) (.bl b)
  | int (i : Int) : Fz G (.int i) (.int i)
  | str (x : Str) : Fz G (.str x) (.str x)
  | ty (n : String) : Fz G (.ty n) (.ty n)
  | glo (x : Str) : Fz G (.ref (He.ga K x)) (.glo x)
  | lst {a : Addr} {vs : List V} {ds : List D} : G a = some (.lst vs) → FzL G vs ds → Fz G (.ref a) (.lst ds)
  | scr {a : Addr} {vs : List V} {ds : List D} : SqL K G a vs → FzL G vs ds → Fz G (.ref a) (.scr ds)
  | tup {a : Addr} {vs : List V} {ds : List D} : TupAt G a vs ds → FzL G vs ds → Fz G (.ref a) (.tup ds)
  | pr {a : Addr} {x y : V} {d e : D} : Rd G a (.tup [x, y]) → Fz G x d → Fz G y e → Fz G (.ref a) (.pr d e)
  | dic {a : Addr} {kvs : List (Key × V)} {ds : List (D × D)} : Rd G a (.dK kvs) → FzK G kvs ds → Fz G (.ref a) (.dic ds)
  | dit {a : Addr} {kvs : List (List Key × V)} {ds : List (D × D)} : Rd G a (.dT kvs) → FzT G kvs ds → Fz G (.ref a) (.dit ds)
  | ins {a dx : Addr} {c : Str} {fs : List (Str × V)} {ds : List (Str × D)} : G a = some (.ins (He.ga K c) dx fs) → FzF G fs ds → Fz G (.ref a) (.ins c ds)
  | rng {a : Addr} {lo hi : Int} : G a = some (.rng lo hi) → Fz G (.ref a) (.rng lo hi)
  | htp {a : Addr} {vs : List V} {ds : List D} : HtpAt G a vs → FzL G vs ds → Fz G (.ref a) (.htp ds)
inductive FzL (G : Hp) : List V → List D → Prop
  | nil : FzL G [] []
  | cons {v : V} {d : D} {vs : List V} {ds : List D} : Fz G v d → FzL G vs ds → FzL G (v :: vs) (d :: ds)
inductive FzK (G : Hp) : List (Key × V) → List (D × D) → Prop
  | nil : FzK G [] []
  | cons {k : Key} {v : V} {d : D} {vs : List (Key × V)} {ds : List (D × D)} : Fz G v d → FzK G vs ds → FzK G ((k, v) :: vs) ((kD k, d) :: ds)
inductive FzT (G : Hp) : List (List Key × V) → List (D × D) → Prop
  | nil : FzT G [] []
  | cons {k : List Key} {v : V} {d : D} {vs : List (List Key × V)} {ds : List (D × D)} : Fz G v d → FzT G vs ds → FzT G ((k, v) :: vs) ((kT k, d) :: ds)
inductive FzF (G : Hp) : List (Str × V) → List (Str × D) → Prop
  | nil : FzF G [] []
  | cons {f : Str} {v : V} {d : D} {vs : List (Str × V)} {ds : List (Str × D)} : Fz G v d → FzF G vs ds → FzF G ((f, v) :: vs) ((f, d) :: ds)
end
mutual
theorem Fz.mono {G G' : Hp} (s : Le G G') : ∀ {v : V} {d : D}, Fz K G v d → Fz K G' v d
  | _, _, .non => .non
  | _, _, .bl b => .bl b
  | _, _, .int i => .int i
  | _, _, .str x => .str x
  | _, _, .ty n => .ty n
  | _, _, .glo x => .glo x
  | _, _, .lst h a => .lst (s.lst h) (FzL.mono s a)
  | _, _, .scr h a => .scr (s.sqL h) (FzL.mono s a)
  | _, _, .tup h a => .tup (h.le s) (FzL.mono s a)
  | _, _, .pr h a b => .pr (s.rdTup h) (Fz.mono s a) (Fz.mono s b)
  | _, _, .dic h a => .dic (s.rd h) (FzK.mono s a)
  | _, _, .dit h a => .dit (s.rdT h) (FzT.mono s a)
  | _, _, .ins h a => .ins (s.ins h) (FzF.mono s a)
  | _, _, .rng h => .rng (s.rng h)
  | _, _, .htp h a => .htp (h.le s) (FzL.mono s a)
theorem FzL.mono {G G' : Hp} (s : Le G G') : ∀ {vs : List V} {ds : List D}, FzL K G vs ds → FzL K G' vs ds
  | _, _, .nil => .nil
  | _, _, .cons h t => .cons (Fz.mono s h) (FzL.mono s t)
theorem FzK.mono {G G' : Hp} (s : Le G G') : ∀ {vs : List (Key × V)} {ds : List (D × D)}, FzK K G vs ds → FzK K G' vs ds
  | _, _, .nil => .nil
  | _, _, .cons h t => .cons (Fz.mono s h) (FzK.mono s t)
theorem FzT.mono {G G' : Hp} (s : Le G G') : ∀ {vs : List (List Key × V)} {ds : List (D × D)}, FzT K G vs ds → FzT K G' vs ds
  | _, _, .nil => .nil
  | _, _, .cons h t => .cons (Fz.mono s h) (FzT.mono s t)
theorem FzF.mono {G G' : Hp} (s : Le G G') : ∀ {vs : List (Str × V)} {ds : List (Str × D)}, FzF K G vs ds → FzF K G' vs ds
  | _, _, .nil => .nil
  | _, _, .cons h t => .cons (Fz.mono s h) (FzF.mono s t)
end
mutual
inductive RelD (G H : Hp) : V → D → M → List Addr → Prop
  | fz {v : V} {d : D} : Fz K G v d → RelD G H v d .fz []
  | lst {a : Addr} {vs : List V} {ds : List D} {ms : List M} {u : List Addr} : H a = some (.lst vs) → RelL G H vs ds ms u → RelD G H (.ref a) (.lst ds) (.nd true ms) (a :: u)
  | tup {a : Addr} {vs : List V} {ds : List D} {ms : List M} {u : List Addr} : TupAt G a vs ds → RelL G H vs ds ms u → RelD G H (.ref a) (.tup ds) (.nd false ms) u
  | dic {a : Addr} {kvs : List (Key × V)} {ds : List (D × D)} {ms : List M} {u : List Addr} : H a = some (.dK kvs) → RelK G H kvs ds ms u → RelD G H (.ref a) (.dic ds) (.nd true ms) (a :: u)
  | dit {a : Addr} {kvs : List (List Key × V)} {ds : List (D × D)} {ms : List M} {u : List Addr} : H a = some (.dT kvs) → RelT G H kvs ds ms u → RelD G H (.ref a) (.dit ds) (.nd true ms) (a :: u)
  | ins {a dx : Addr} {c : Str} {fs : List (Str × V)} {ds : List (Str × D)} {ms : List M} {u : List Addr} : H a = some (.ins (He.ga K c) dx fs) → H dx = some (.own a) → RelF G H fs ds ms u → RelD G H (.ref a) (.ins c ds) (.nd true ms) (a :: dx :: u)
inductive RelL (G H : Hp) : List V → List D → List M → List Addr → Prop
  | fz {vs : List V} {ds : List D} : FzL K G vs ds → RelL G H vs ds [] []
  | cons {v : V} {d : D} {m : M} {u : List Addr} {vs : List V} {ds : List D} {ms : List M} {u' : List Addr} : RelD G H v d m u → RelL G H vs ds ms u' → RelL G H (v :: vs) (d :: ds) (m :: ms) (u ++ u')
inductive RelK (G H : Hp) : List (Key × V) → List (D × D) → List M → List Addr → Prop
  | fz {vs : List (Key × V)} {ds : List (D × D)} : FzK K G vs ds → RelK G H vs ds [] []
  | cons {k : Key} {v : V} {d : D} {m : M} {u : List Addr} {vs : List (Key × V)} {ds : List (D × D)} {ms : List M} {u' : List Addr} : RelD G H v d m u → RelK G H vs ds ms u' → RelK G H ((k, v) :: vs) ((kD k, d) :: ds) (m :: ms) (u ++ u')
inductive RelT (G H : Hp) : List (List Key × V) → List (D × D) → List M → List Addr → Prop
  | fz {vs : List (List Key × V)} {ds : List (D × D)} : FzT K G vs ds → RelT G H vs ds [] []
  | cons {k : List Key} {v : V} {d : D} {m : M} {u : List Addr} {vs : List (List Key × V)} {ds : List (D × D)} {ms : List M} {u' : List Addr} : RelD G H v d m u → RelT G H vs ds ms u' → RelT G H ((k, v) :: vs) ((kT k, d) :: ds) (m :: ms) (u ++ u')
inductive RelF (G H : Hp) : List (Str × V) → List (Str × D) → List M → List Addr → Prop
  | fz {vs : List (Str × V)} {ds : List (Str × D)} : FzF K G vs ds → RelF G H vs ds [] []
  | cons {f : Str} {v : V} {d : D} {m : M} {u : List Addr} {vs : List (Str × V)} {ds : List (Str × D)} {ms : List M} {u' : List Addr} : RelD G H v d m u → RelF G H vs ds ms u' → RelF G H ((f, v) :: vs) ((f, d) :: ds) (m :: ms) (u ++ u')
end
end
section
variable {K : PySem.W.Frag} {G H G' H' : Hp}
mutual
theorem RelD.mono (s : Le G G') : ∀ {v : V} {d : D} {m : M} {u : List Addr}, (∀ a ∈ u, H' a = H a) → RelD K G H v d m u → RelD K G' H' v d m u
  | _, _, _, _, _, .fz h => .fz (h.mono K s)
  | _, _, _, _, k, .lst h r => .lst ((k _ (by simp)).trans h) (RelL.mono s (fun a ha => k a (by simp [ha])) r)
  | _, _, _, _, k, .tup h r => .tup (h.le s) (RelL.mono s k r)
  | _, _, _, _, k, .dic h r => .dic ((k _ (by simp)).trans h) (RelK.mono s (fun a ha => k a (by simp [ha])) r)
  | _, _, _, _, k, .dit h r => .dit ((k _ (by simp)).trans h) (RelT.mono s (fun a ha => k a (by simp [ha])) r)
  | _, _, _, _, k, .ins h g r => .ins ((k _ (by simp)).trans h) ((k _ (by simp)).trans g) (RelF.mono s (fun a ha => k a (by simp [ha])) r)
theorem RelL.mono (s : Le G G') : ∀ {vs : List V} {ds : List D} {ms : List M} {u : List Addr}, (∀ a ∈ u, H' a = H a) → RelL K G H vs ds ms u → RelL K G' H' vs ds ms u
  | _, _, _, _, _, .fz h => .fz (h.mono K s)
  | _, _, _, _, k, .cons h r => .cons (RelD.mono s (fun a ha => k a (by simp [ha])) h) (RelL.mono s (fun a ha => k a (by simp [ha])) r)
theorem RelK.mono (s : Le G G') : ∀ {vs : List (Key × V)} {ds : List (D × D)} {ms : List M} {u : List Addr}, (∀ a ∈ u, H' a = H a) → RelK K G H vs ds ms u → RelK K G' H' vs ds ms u
  | _, _, _, _, _, .fz h => .fz (h.mono K s)
  | _, _, _, _, k, .cons h r => .cons (RelD.mono s (fun a ha => k a (by simp [ha])) h) (RelK.mono s (fun a ha => k a (by simp [ha])) r)
theorem RelT.mono (s : Le G G') : ∀ {vs : List (List Key × V)} {ds : List (D × D)} {ms : List M} {u : List Addr}, (∀ a ∈ u, H' a = H a) → RelT K G H vs ds ms u → RelT K G' H' vs ds ms u
  | _, _, _, _, _, .fz h => .fz (h.mono K s)
  | _, _, _, _, k, .cons h r => .cons (RelD.mono s (fun a ha => k a (by simp [ha])) h) (RelT.mono s (fun a ha => k a (by simp [ha])) r)
theorem RelF.mono (s : Le G G') : ∀ {vs : List (Str × V)} {ds : List (Str × D)} {ms : List M} {u : List Addr}, (∀ a ∈ u, H' a = H a) → RelF K G H vs ds ms u → RelF K G' H' vs ds ms u
  | _, _, _, _, _, .fz h => .fz (h.mono K s)
  | _, _, _, _, k, .cons h r => .cons (RelD.mono s (fun a ha => k a (by simp [ha])) h) (RelF.mono s (fun a ha => k a (by simp [ha])) r)
end
mutual
theorem RelD.freeze (s : Le G G') : ∀ {v : V} {d : D} {m : M} {u : List Addr}, (∀ a ∈ u, G' a = H a) → RelD K G H v d m u → Fz K G' v d
  | _, _, _, _, _, .fz h => h.mono K s
  | _, _, _, _, k, .lst h r => .lst ((k _ (by simp)).trans h) (RelL.freeze s (fun a ha => k a (by simp [ha])) r)
  | _, _, _, _, k, .tup h r => .tup (h.le s) (RelL.freeze s k r)
  | _, _, _, _, k, .dic h r => .dic (.inl ((k _ (by simp)).trans h)) (RelK.freeze s (fun a ha => k a (by simp [ha])) r)
  | _, _, _, _, k, .dit h r => .dit (.inl ((k _ (by simp)).trans h)) (RelT.freeze s (fun a ha => k a (by simp [ha])) r)
  | _, _, _, _, k, .ins h g r => .ins ((k _ (by simp)).trans h) (RelF.freeze s (fun a ha => k a (by simp [ha])) r)
theorem RelL.freeze (s : Le G G') : ∀ {vs : List V} {ds : List D} {ms : List M} {u : List Addr}, (∀ a ∈ u, G' a = H a) → RelL K G H vs ds ms u → FzL K G' vs ds
  | _, _, _, _, _, .fz h => h.mono K s
  | _, _, _, _, k, .cons h r => .cons (RelD.freeze s (fun a ha => k a (by simp [ha])) h) (RelL.freeze s (fun a ha => k a (by simp [ha])) r)
theorem RelK.freeze (s : Le G G') : ∀ {vs : List (Key × V)} {ds : List (D × D)} {ms : List M} {u : List Addr}, (∀ a ∈ u, G' a = H a) → RelK K G H vs ds ms u → FzK K G' vs ds
  | _, _, _, _, _, .fz h => h.mono K s
  | _, _, _, _, k, .cons h r => .cons (RelD.freeze s (fun a ha => k a (by simp [ha])) h) (RelK.freeze s (fun a ha => k a (by simp [ha])) r)
theorem RelT.freeze (s : Le G G') : ∀ {vs : List (List Key × V)} {ds : List (D × D)} {ms : List M} {u : List Addr}, (∀ a ∈ u, G' a = H a) → RelT K G H vs ds ms u → FzT K G' vs ds
  | _, _, _, _, _, .fz h => h.mono K s
  | _, _, _, _, k, .cons h r => .cons (RelD.freeze s (fun a ha => k a (by simp [ha])) h) (RelT.freeze s (fun a ha => k a (by simp [ha])) r)
theorem RelF.freeze (s : Le G G') : ∀ {vs : List (Str × V)} {ds : List (Str × D)} {ms : List M} {u : List Addr}, (∀ a ∈ u, G' a = H a) → RelF K G H vs ds ms u → FzF K G' vs ds
  | _, _, _, _, _, .fz h => h.mono K s
  | _, _, _, _, k, .cons h r => .cons (RelD.freeze s (fun a ha => k a (by simp [ha])) h) (RelF.freeze s (fun a ha => k a (by simp [ha])) r)
end
theorem RelD.now {v : V} {d : D} {m : M} {u : List Addr} (s : Same G H) (r : RelD K G H v d m u) : Fz K H v d := r.freeze (Le.of s) fun _ _ => rfl
end

structure Wf (G H : Hp) (U : List Addr) : Prop where
  gh : Same G H
  dj : ∀ a ∈ U, G a = none
  nd : U.Nodup
  ex : ∀ a ∈ U, ∃ o, H a = some o
  nt : ∀ a ∈ U, ∀ vs, H a ≠ some (.tup vs)
def Fk (G G' : Hp) : Prop := ∀ a ob u, G a = some (.frz ob u) → G' a = some (.frz ob u)
theorem Fk.refl (G : Hp) : Fk G G := fun _ _ _ h => h
theorem Fk.of {G G' : Hp} (s : Same G G') : Fk G G' := fun a ob u h => s _ _ h
theorem Fk.trans {G G1 G2 : Hp} (h : Fk G G1) (k : Fk G1 G2) : Fk G G2 := fun a ob u e => k a ob u (h a ob u e)
structure Mv (G H : Hp) (U : List Addr) (G' H' : Hp) (U' : List Addr) : Prop where
  gg : Le G G'
  wf : Wf G' H' U'
  fr : ∀ a o, a ∉ U → G a = none → H a = some o → H' a = some o
  nw : ∀ a, (∃ o, G' a = some o) ∨ a ∈ U' → (∃ o, G a = some o) ∨ a ∈ U ∨ H a = none ∨ ∃ vs, H a = some (.tup vs)
  dm : ∀ a, H' a = none → H a = none
  fk : Fk G G'
section
variable {G H G1 H1 G2 H2 G' H' : Hp} {U U1 U2 U' R : List Addr}
theorem Wf.perm (w : Wf G H U) (p : U.Perm U') : Wf G H U' := ⟨w.gh, fun a h => w.dj a (p.mem_iff.mpr h), p.nodup_iff.mp w.nd, fun a h => w.ex a (p.mem_iff.mpr h), fun a h => w.nt a (p.mem_iff.mpr h)⟩
theorem Wf.left (w : Wf G H (U ++ R)) : Wf G H U := ⟨w.gh, fun a h => w.dj a (List.mem_append_left _ h), (List.nodup_append.mp w.nd).1, fun a h => w.ex a (List.mem_append_left _ h), fun a h => w.nt a (List.mem_append_left _ h)⟩
theorem Wf.right (w : Wf G H (U ++ R)) : Wf G H R := ⟨w.gh, fun a h => w.dj a (List.mem_append_right _ h), (List.nodup_append.mp w.nd).2.1, fun a h => w.ex a (List.mem_append_right _ h), fun a h => w.nt a (List.mem_append_right _ h)⟩
theorem Wf.apart (w : Wf G H (U ++ R)) {a : Addr} (h : a ∈ U) (k : a ∈ R) : False := (List.nodup_append.mp w.nd).2.2 a h a k rfl
theorem Wf.notG (w : Wf G H U) {a : Addr} (h : a ∈ U) {o : HO} (e : G a = some o) : False := by rw [w.dj a h] at e; cases e
theorem Wf.fresh (w : Wf G H U) {a : Addr} (h : H a = none) : a ∉ U := fun k => by obtain ⟨o, e⟩ := w.ex a k; rw [h] at e; cases e
theorem Wf.freshG (w : Wf G H U) {a : Addr} (h : H a = none) : G a = none := by
  cases q : G a with
  | none => rfl
  | some o => rw [w.gh a o q] at h; cases h
theorem Mv.refl (w : Wf G H U) : Mv G H U G H U := ⟨Le.refl G, w, fun _ _ _ _ h => h, fun a h => h.elim .inl fun z => .inr (.inl z), fun _ h => h, Fk.refl G⟩
theorem Mv.trans (m : Mv G H U G1 H1 U1) (n : Mv G1 H1 U1 G2 H2 U2) : Mv G H U G2 H2 U2 where
  gg := m.gg.trans n.gg
  wf := n.wf
  fr := fun a o h hg e => by
    have e1 := m.fr a o h hg e
    have out : a ∉ U1 := fun z => by
      rcases m.nw a (.inr z) with ⟨o', z'⟩ | z' | z' | ⟨vs, z'⟩
      · rw [hg] at z'; cases z'
      · exact h z'
      · rw [z'] at e; cases e
      · rw [z'] at e
        cases e
        exact m.wf.nt a z vs e1
    cases q : G1 a with
    | none => exact n.fr a o out q e1
    | some o' =>
      rcases m.nw a (.inl ⟨o', q⟩) with ⟨o', z⟩ | z | z | ⟨vs, z⟩
      · rw [hg] at z; cases z
      · exact (h z).elim
      · rw [z] at e; cases e
      · rw [z] at e
        cases e
        have q2 := m.wf.gh a o' q
        rw [e1] at q2
        cases q2
        exact n.wf.gh a _ (n.gg.tup q)
  nw := fun a h => by
    rcases n.nw a h with z | z | z | ⟨vs, z⟩
    · exact m.nw a (.inl z)
    · exact m.nw a (.inr z)
    · exact .inr (.inr (.inl (m.dm a z)))
    · by_cases hU : a ∈ U
      · exact .inr (.inl hU)
      · cases q : G a with
        | some o => exact .inl ⟨o, rfl⟩
        | none =>
          cases q2 : H a with
          | none => exact .inr (.inr (.inl rfl))
          | some o =>
            have := m.fr a o hU q q2
            rw [z] at this
            cases this
            exact .inr (.inr (.inr ⟨vs, rfl⟩))
  dm := fun a h => m.dm a (n.dm a h)
  fk := m.fk.trans n.fk
theorem Mv.permL (m : Mv G H U G' H' U') (p : U.Perm U1) : Mv G H U1 G' H' U' := ⟨m.gg, m.wf, fun a o h => m.fr a o (fun z => h (p.mem_iff.mp z)), fun a h => (m.nw a h).imp id fun z => z.imp p.mem_iff.mp id, m.dm, m.fk⟩
theorem Mv.permR (m : Mv G H U G' H' U') (p : U'.Perm U1) : Mv G H U G' H' U1 := ⟨m.gg, m.wf.perm p, m.fr, fun a h => m.nw a (h.imp id p.mem_iff.mpr), m.dm, m.fk⟩
theorem Mv.frame (m : Mv G H U G' H' U') (w : Wf G H (U ++ R)) : Mv G H (U ++ R) G' H' (U' ++ R) ∧ ∀ a ∈ R, H' a = H a := by
  have st : ∀ a ∈ R, H' a = H a := fun a h => by
    obtain ⟨o, e⟩ := w.right.ex a h
    rw [e]
    exact m.fr a o (fun z => w.apart z h) (w.right.dj a h) e
  refine ⟨⟨m.gg, ⟨m.wf.gh, fun a h => ?_, ?_, fun a h => ?_, fun a h vs => ?_⟩, fun a o h hg e => m.fr a o (fun z => h (List.mem_append_left _ z)) hg e, fun a h => ?_, m.dm, m.fk⟩, st⟩
  · rcases List.mem_append.mp h with h | h
    · exact m.wf.dj a h
    · cases q : G' a with
      | none => rfl
      | some o =>
        rcases m.nw a (.inl ⟨o, q⟩) with ⟨o', z⟩ | z | z | ⟨vs, z⟩
        · exact (w.right.notG h z).elim
        · exact (w.apart z h).elim
        · obtain ⟨o', e⟩ := w.right.ex a h
          rw [z] at e; cases e
        · exact (w.right.nt a h vs z).elim
  · refine List.nodup_append.mpr ⟨m.wf.nd, w.right.nd, fun a h b k e => ?_⟩
    subst e
    rcases m.nw a (.inr h) with ⟨o', z⟩ | z | z | ⟨vs, z⟩
    · exact w.right.notG k z
    · exact w.apart z k
    · obtain ⟨o', e⟩ := w.right.ex a k
      rw [z] at e; cases e
    · exact w.right.nt a k vs z
  · rcases List.mem_append.mp h with h | h
    · exact m.wf.ex a h
    · obtain ⟨o, e⟩ := w.right.ex a h
      exact ⟨o, (st a h).trans e⟩
  · rcases List.mem_append.mp h with h | h
    · exact m.wf.nt a h vs
    · rw [st a h]; exact w.right.nt a h vs
  · rcases h with h | h
    · exact (m.nw a (.inl h)).imp id fun z => z.imp (List.mem_append_left _) id
    · rcases List.mem_append.mp h with h | h
      · exact (m.nw a (.inr h)).imp id fun z => z.imp (List.mem_append_left _) id
      · exact .inr (.inl (List.mem_append_right _ h))
theorem Mv.forget (w : Wf G H (R ++ U)) : Mv G H (R ++ U) G H U := ⟨Le.refl G, w.right, fun _ _ _ _ h => h, fun a h => h.elim .inl fun z => .inr (.inl (List.mem_append_right _ z)), fun _ h => h, Fk.refl G⟩
theorem Mv.newG (w : Wf G H U) {p : Addr} {o : HO} (hp : H p = none) : Mv G H U (upd G p o) (upd H p o) U := by
  have s : ∀ a, H a ≠ none → a ≠ p := fun a h e => h (by rw [e]; exact hp)
  have sm : Same G (upd G p o) := fun a u e => by rw [upd_ne (s a (by rw [w.gh a u e]; simp))]; exact e
  refine ⟨Le.of fun a u e => ?_, ⟨fun a u e => ?_, fun a h => ?_, w.nd, fun a h => ?_, fun a h vs => ?_⟩, fun a u _ _ e => ?_, fun a h => ?_, fun a h => ?_, Fk.of sm⟩
  · rw [upd_ne (s a (by rw [w.gh a u e]; simp))]; exact e
  · by_cases q : a = p
    · subst q; rw [upd_same] at e ⊢; exact e
    · rw [upd_ne q] at e ⊢; exact w.gh a u e
  · obtain ⟨o', e⟩ := w.ex a h
    rw [upd_ne (s a (by rw [e]; simp))]; exact w.dj a h
  · obtain ⟨o', e⟩ := w.ex a h
    exact ⟨o', by rw [upd_ne (s a (by rw [e]; simp))]; exact e⟩
  · obtain ⟨o', e⟩ := w.ex a h
    rw [upd_ne (s a (by rw [e]; simp))]; exact w.nt a h vs
  · rw [upd_ne (s a (by rw [e]; simp))]; exact e
  · rcases h with ⟨u, e⟩ | h
    · by_cases q : a = p
      · subst q; exact .inr (.inr (.inl hp))
      · rw [upd_ne q] at e; exact .inl ⟨u, e⟩
    · exact .inr (.inl h)
  · by_cases q : a = p
    · subst q; exact hp
    · rw [upd_ne q] at h; exact h
theorem Mv.newO (w : Wf G H U) {p : Addr} {o : HO} (hp : H p = none) (no : ∀ vs, o ≠ .tup vs := by intro _ h; cases h) : Mv G H U G (upd H p o) (p :: U) := by
  have s : ∀ a, H a ≠ none → a ≠ p := fun a h e => h (by rw [e]; exact hp)
  refine ⟨Le.refl G, ⟨fun a u e => ?_, fun a h => ?_, ?_, fun a h => ?_, fun a h vs => ?_⟩, fun a u _ _ e => ?_, fun a h => ?_, fun a h => ?_, Fk.refl G⟩
  · rw [upd_ne (s a (by rw [w.gh a u e]; simp))]; exact w.gh a u e
  · rcases List.mem_cons.mp h with h | h
    · subst h; exact w.freshG hp
    · exact w.dj a h
  · exact List.nodup_cons.mpr ⟨w.fresh hp, w.nd⟩
  · rcases List.mem_cons.mp h with h | h
    · subst h; exact ⟨o, upd_same⟩
    · obtain ⟨o', e⟩ := w.ex a h
      exact ⟨o', by rw [upd_ne (s a (by rw [e]; simp))]; exact e⟩
  · rcases List.mem_cons.mp h with h | h
    · subst h; rw [upd_same]; exact fun z => no vs (Option.some.inj z)
    · obtain ⟨o', e⟩ := w.ex a h
      rw [upd_ne (s a (by rw [e]; simp))]; exact w.nt a h vs
  · rw [upd_ne (s a (by rw [e]; simp))]; exact e
  · rcases h with h | h
    · exact .inl h
    · rcases List.mem_cons.mp h with h | h
      · subst h; exact .inr (.inr (.inl hp))
      · exact .inr (.inl h)
  · by_cases q : a = p
    · subst q; exact hp
    · rw [upd_ne q] at h; exact h
theorem Mv.write (w : Wf G H U) {p : Addr} {o : HO} (hp : p ∈ U) (no : ∀ vs, o ≠ .tup vs := by intro _ h; cases h) : Mv G H U G (upd H p o) U := by
  refine ⟨Le.refl G, ⟨fun a u e => ?_, w.dj, w.nd, fun a h => ?_, fun a h vs => ?_⟩, fun a u h _ e => ?_, fun a h => h.elim .inl fun z => .inr (.inl z), fun a h => ?_, Fk.refl G⟩
  · rw [upd_ne (fun (z : a = p) => by subst z; exact w.notG hp e)]; exact w.gh a u e
  · by_cases q : a = p
    · subst q; exact ⟨o, upd_same⟩
    · obtain ⟨o', e⟩ := w.ex a h
      exact ⟨o', by rw [upd_ne q]; exact e⟩
  · by_cases q : a = p
    · subst q; rw [upd_same]; exact fun z => no vs (Option.some.inj z)
    · rw [upd_ne q]; exact w.nt a h vs
  · rw [upd_ne (fun (z : a = p) => by subst z; exact h hp)]; exact e
  · by_cases q : a = p
    · subst q; rw [upd_same] at h; cases h
    · rw [upd_ne q] at h; exact h
theorem Mv.know (w : Wf G H U) {p : Addr} {vs : List V} (hp : H p = some (.tup vs)) : Mv G H U (upd G p (.tup vs)) H U := by
  have sm : Same G (upd G p (.tup vs)) := fun a u e => by
    by_cases q : a = p
    · subst q; rw [w.gh a u e] at hp; cases hp; exact upd_same
    · rw [upd_ne q]; exact e
  refine ⟨Le.of sm, ⟨fun a u e => ?_, fun a h => ?_, w.nd, w.ex, w.nt⟩, fun a u _ _ e => e, fun a h => ?_, fun a h => h, Fk.of sm⟩
  · by_cases q : a = p
    · subst q; rw [upd_same] at e; cases e; exact hp
    · rw [upd_ne q] at e; exact w.gh a u e
  · rw [upd_ne (fun z => by subst z; exact w.nt a h vs hp)]; exact w.dj a h
  · rcases h with ⟨u, e⟩ | h
    · by_cases q : a = p
      · subst q; exact .inr (.inr (.inr ⟨vs, hp⟩))
      · rw [upd_ne q] at e; exact .inl ⟨u, e⟩
    · exact .inr (.inl h)
def frzH (G H : Hp) (u : List Addr) : Hp := fun a => if a ∈ u then H a else G a
theorem Mv.freeze (w : Wf G H (R ++ U)) : Mv G H (R ++ U) (frzH G H R) H U ∧ Same G (frzH G H R) ∧ ∀ a ∈ R, frzH G H R a = H a := by
  have sg : Same G (frzH G H R) := fun a o e => by
    unfold frzH
    rw [if_neg (fun z => w.left.notG z e)]; exact e
  refine ⟨⟨Le.of sg, ⟨fun a o e => ?_, fun a h => ?_, w.right.nd, w.right.ex, w.right.nt⟩, fun _ _ _ _ h => h, fun a h => ?_, fun _ h => h, Fk.of sg⟩, sg, fun a h => if_pos h⟩
  · unfold frzH at e
    by_cases q : a ∈ R
    · rw [if_pos q] at e; exact e
    · rw [if_neg q] at e; exact w.gh a o e
  · unfold frzH
    rw [if_neg (fun z => w.apart z h)]
    exact w.right.dj a h
  · rcases h with ⟨o, e⟩ | h
    · unfold frzH at e
      by_cases q : a ∈ R
      · exact .inr (.inl (List.mem_append_left _ q))
      · rw [if_neg q] at e; exact .inl ⟨o, e⟩
    · exact .inr (.inl (List.mem_append_right _ h))
theorem Mv.lock (w : Wf G H U) {d : Addr} {u : HO} {od : Obj} (hu : (∃ kvs, u = .dK kvs) ∨ ∃ kvs, u = .dT kvs) (hd : G d = some u) : Mv G H U (upd G d (.frz od u)) (upd H d (.frz od u)) U := by
  have nf : ∀ ob u', u ≠ .frz ob u' := fun ob u' z => by rcases hu with ⟨_, rfl⟩ | ⟨_, rfl⟩ <;> cases z
  have hc : core (.frz od u) = core u := by rcases hu with ⟨_, rfl⟩ | ⟨_, rfl⟩ <;> rfl
  have hn : ∀ a, a ∈ U → a ≠ d := fun a h z => by subst z; exact w.notG h hd
  refine ⟨fun a o e => ?_, ⟨fun a o e => ?_, fun a h => ?_, w.nd, fun a h => ?_, fun a h vs => ?_⟩, fun a o h hg e => ?_, fun a h => ?_, fun a h => ?_, fun a ob u' e => ?_⟩
  · by_cases q : a = d
    · subst q; rw [hd] at e; cases e; exact ⟨_, upd_same, hc.symm⟩
    · exact ⟨o, by rw [upd_ne q]; exact e, rfl⟩
  · by_cases q : a = d
    · subst q; rw [upd_same] at e ⊢; exact e
    · rw [upd_ne q] at e ⊢; exact w.gh a o e
  · rw [upd_ne (hn a h)]; exact w.dj a h
  · obtain ⟨o', e⟩ := w.ex a h
    exact ⟨o', by rw [upd_ne (hn a h)]; exact e⟩
  · rw [upd_ne (hn a h)]; exact w.nt a h vs
  · rw [upd_ne (fun (z : a = d) => by subst z; rw [hd] at hg; cases hg)]; exact e
  · rcases h with ⟨o, e⟩ | h
    · by_cases q : a = d
      · subst q; exact .inl ⟨_, hd⟩
      · rw [upd_ne q] at e; exact .inl ⟨o, e⟩
    · exact .inr (.inl h)
  · by_cases q : a = d
    · subst q; rw [upd_same] at h; cases h
    · rw [upd_ne q] at h; exact h
  · rw [upd_ne (fun (z : a = d) => by subst z; rw [hd] at e; exact nf _ _ (Option.some.inj e))]; exact e
theorem le_unlock {d : Addr} {u : HO} {od : Obj} (hu : (∃ kvs, u = .dK kvs) ∨ ∃ kvs, u = .dT kvs) (hd : G d = some (.frz od u)) : Le G (upd G d u) := fun a o e => by
  by_cases q : a = d
  · subst q
    rw [hd] at e
    cases e
    exact ⟨_, upd_same, by rcases hu with ⟨_, rfl⟩ | ⟨_, rfl⟩ <;> rfl⟩
  · exact ⟨o, by rw [upd_ne q]; exact e, rfl⟩
theorem Mv.unlock {d : Addr} {u : HO} {od : Obj} (hu : (∃ kvs, u = .dK kvs) ∨ ∃ kvs, u = .dT kvs) (hd : G d = some u) (w : Wf G H U) (m : Mv (upd G d (.frz od u)) (upd H d (.frz od u)) U G' H' U') :
    G' d = some (.frz od u) ∧ Mv G H U (upd G' d u) (upd H' d u) U' := by
  have h1 : G' d = some (.frz od u) := m.fk d od u upd_same
  have l := Mv.lock (od := od) w hu hd
  have hn : ∀ a, a ∈ U' → a ≠ d := fun a h z => by subst z; exact m.wf.notG h h1
  have hH : H' d = some (.frz od u) := m.wf.gh _ _ h1
  refine ⟨h1, (l.gg.trans m.gg).trans (le_unlock hu h1), ⟨fun a o e => ?_, fun a h => ?_, m.wf.nd, fun a h => ?_, fun a h vs => ?_⟩, fun a o h hg e => ?_, fun a h => ?_, fun a h => ?_, fun a ob u' e => ?_⟩
  · by_cases q : a = d
    · subst q; rw [upd_same] at e ⊢; exact e
    · rw [upd_ne q] at e ⊢; exact m.wf.gh a o e
  · rw [upd_ne (hn a h)]; exact m.wf.dj a h
  · obtain ⟨o', e⟩ := m.wf.ex a h
    exact ⟨o', by rw [upd_ne (hn a h)]; exact e⟩
  · rw [upd_ne (hn a h)]; exact m.wf.nt a h vs
  · have q : a ≠ d := fun z => by subst z; rw [hd] at hg; cases hg
    rw [upd_ne q]
    exact m.fr a o h (by rw [upd_ne q]; exact hg) (by rw [upd_ne q]; exact e)
  · have h' : (∃ o, G' a = some o) ∨ a ∈ U' := by
      rcases h with ⟨o, e⟩ | h
      · by_cases q : a = d
        · subst q; exact .inl ⟨_, h1⟩
        · rw [upd_ne q] at e; exact .inl ⟨o, e⟩
      · exact .inr h
    exact (l.trans m).nw a h'
  · by_cases q : a = d
    · subst q; rw [upd_same] at h; cases h
    · rw [upd_ne q] at h; exact (l.trans m).dm a h
  · have q : a ≠ d := fun z => by
      subst z; rw [hd] at e
      rcases hu with ⟨_, rfl⟩ | ⟨_, rfl⟩ <;> cases e
    rw [upd_ne q]
    exact m.fk a ob u' (by rw [upd_ne q]; exact e)
end

section
variable (K : PySem.W.Frag) (T : CxA)
inductive RlL (G H : Hp) : St → Env → List Addr → Prop
  | nil : RlL G H [] [] []
  | emp {x : Option V} {σ : St} {env : Env} {U : List Addr} : RlL G H σ env U → RlL G H (x :: σ) (none :: env) U
  | val {v : V} {d : D} {m : M} {u : List Addr} {σ : St} {env : Env} {U : List Addr} : RelD K G H v d m u → RlL G H σ env U → RlL G H (some v :: σ) (some (.val d m) :: env) (u ++ U)
  | cau {a dx : Addr} {w : V} {d : D} {σ : St} {env : Env} {U : List Addr} : T = some (a, dx) → H dx = some (.xd [(("what" : Str), w)]) → Fz K G w d → RlL G H σ env U → RlL G H (some (.ref a) :: σ) (some (.cau d) :: env) (dx :: U)
def Rl (G H : Hp) (σ : St) (env : Env) (U : List Addr) : Prop := ∃ U0, RlL K T G H σ env U0 ∧ U0.Perm U
end
section
variable {K : PySem.W.Frag} {T : CxA} {G H G' H' : Hp} {σ : St} {env : Env} {U U' : List Addr}
theorem RlL.mono (s : Le G G') : ∀ {σ : St} {env : Env} {U : List Addr}, (∀ a ∈ U, H' a = H a) → RlL K T G H σ env U → RlL K T G' H' σ env U
  | _, _, _, _, .nil => .nil
  | _, _, _, k, .emp r => .emp (RlL.mono s k r)
  | _, _, _, k, .val h r => .val (h.mono s fun a ha => k a (by simp [ha])) (RlL.mono s (fun a ha => k a (by simp [ha])) r)
  | _, _, _, k, .cau e h f r => .cau e ((k _ (by simp)).trans h) (f.mono K s) (RlL.mono s (fun a ha => k a (by simp [ha])) r)
theorem Rl.mono (s : Le G G') (k : ∀ a ∈ U, H' a = H a) (r : Rl K T G H σ env U) : Rl K T G' H' σ env U :=
  let ⟨U0, h, p⟩ := r
  ⟨U0, h.mono s fun a ha => k a (p.mem_iff.mp ha), p⟩
theorem Rl.perm (r : Rl K T G H σ env U) (p : U.Perm U') : Rl K T G H σ env U' := let ⟨U0, h, q⟩ := r; ⟨U0, h, q.trans p⟩
theorem RlL.length : ∀ {σ : St} {env : Env} {U : List Addr}, RlL K T G H σ env U → σ.length = env.length
  | _, _, _, .nil => rfl
  | _, _, _, .emp r => congrArg (· + 1) (RlL.length r)
  | _, _, _, .val _ r => congrArg (· + 1) (RlL.length r)
  | _, _, _, .cau _ _ _ r => congrArg (· + 1) (RlL.length r)
theorem Rl.length (r : Rl K T G H σ env U) : σ.length = env.length := let ⟨_, h, _⟩ := r; h.length
theorem RlL.takeV : ∀ {σ : St} {env : Env} {U : List Addr} {i : Nat} {d : D} {m : M}, RlL K T G H σ env U → env[i]? = some (some (.val d m)) →
    ∃ v u U', σ[i]? = some (some v) ∧ RelD K G H v d m u ∧ RlL K T G H σ (env.set i none) U' ∧ (u ++ U').Perm U
  | _, _, _, i, _, _, .nil, e => by simp at e
  | _, _, _, 0, _, _, .emp r, e => by simp at e
  | _, _, _, i + 1, d, m, .emp r, e => by
    obtain ⟨v, u, U', h1, h2, h3, h4⟩ := RlL.takeV (i := i) r (by simpa using e)
    exact ⟨v, u, U', by simpa using h1, h2, .emp h3, h4⟩
  | _, _, _, 0, d, m, .val h r, e => by
    simp at e
    obtain ⟨rfl, rfl⟩ := e
    exact ⟨_, _, _, rfl, h, .emp r, List.Perm.refl _⟩
  | _, _, _, i + 1, d, m, @RlL.val _ _ _ _ v0 d0 m0 u0 σ0 env0 U0 h r, e => by
    obtain ⟨v, u, U', h1, h2, h3, h4⟩ := RlL.takeV (i := i) r (by simpa using e)
    refine ⟨v, u, u0 ++ U', by simpa using h1, h2, .val h h3, ?_⟩
    exact (List.perm_append_comm_assoc u u0 U').trans (h4.append_left u0)
  | _, _, _, 0, d, m, .cau _ _ _ r, e => by simp at e
  | _, _, _, i + 1, d, m, @RlL.cau _ _ _ _ a dx w d0 σ0 env0 U0 h1 h2 h3 r, e => by
    obtain ⟨v, u, U', k1, k2, k3, k4⟩ := RlL.takeV (i := i) r (by simpa using e)
    refine ⟨v, u, dx :: U', by simpa using k1, k2, .cau h1 h2 h3 k3, ?_⟩
    exact List.perm_middle.trans (k4.cons dx)
theorem Rl.takeV {i : Nat} {d : D} {m : M} (r : Rl K T G H σ env U) (e : env[i]? = some (some (.val d m))) : ∃ v u U', σ[i]? = some (some v) ∧ RelD K G H v d m u ∧ Rl K T G H σ (env.set i none) U' ∧ (u ++ U').Perm U := by
  obtain ⟨U0, h, p⟩ := r
  obtain ⟨v, u, U', h1, h2, h3, h4⟩ := h.takeV e
  exact ⟨v, u, U', h1, h2, ⟨U', h3, List.Perm.refl _⟩, h4.trans p⟩
theorem RlL.drop : ∀ {σ : St} {env : Env} {U : List Addr} (i : Nat) (x : Option V), RlL K T G H σ env U → ∃ u U', RlL K T G H (σ.set i x) (env.set i none) U' ∧ (u ++ U').Perm U
  | _, _, _, i, _, .nil => ⟨[], [], .nil, List.Perm.refl _⟩
  | _, _, _, 0, x, .emp r => ⟨[], _, .emp r, List.Perm.refl _⟩
  | _, _, _, i + 1, x, .emp r => by
    obtain ⟨u, U', h, p⟩ := RlL.drop i x r
    exact ⟨u, U', .emp h, p⟩
  | _, _, _, 0, x, .val h r => ⟨_, _, .emp r, List.Perm.refl _⟩
  | _, _, _, i + 1, x, @RlL.val _ _ _ _ v0 d0 m0 u0 σ0 env0 U0 h r => by
    obtain ⟨u, U', h', p⟩ := RlL.drop i x r
    exact ⟨u, u0 ++ U', .val h h', (List.perm_append_comm_assoc u u0 U').trans (p.append_left u0)⟩
  | _, _, _, 0, x, @RlL.cau _ _ _ _ a dx w d0 σ0 env0 U0 h1 h2 h3 r => ⟨[dx], _, .emp r, List.Perm.refl _⟩
  | _, _, _, i + 1, x, @RlL.cau _ _ _ _ a dx w d0 σ0 env0 U0 h1 h2 h3 r => by
    obtain ⟨u, U', h', p⟩ := RlL.drop i x r
    exact ⟨u, dx :: U', .cau h1 h2 h3 h', List.perm_middle.trans (p.cons dx)⟩
theorem Rl.drop (i : Nat) (x : Option V) (r : Rl K T G H σ env U) : ∃ u U', Rl K T G H (σ.set i x) (env.set i none) U' ∧ (u ++ U').Perm U := by
  obtain ⟨U0, h, p⟩ := r
  obtain ⟨u, U', h1, h2⟩ := h.drop i x
  exact ⟨u, U', ⟨U', h1, List.Perm.refl _⟩, h2.trans p⟩
theorem RlL.put {v : V} {d : D} {m : M} {u : List Addr} (h : RelD K G H v d m u) : ∀ {σ : St} {env : Env} {U : List Addr} {i : Nat}, RlL K T G H σ env U → env[i]? = some none → ∃ U', RlL K T G H (σ.set i (some v)) (env.set i (some (.val d m))) U' ∧ U'.Perm (u ++ U)
  | _, _, _, i, .nil, e => by simp at e
  | _, _, _, 0, .emp r, e => ⟨_, .val h r, List.Perm.refl _⟩
  | _, _, _, i + 1, .emp r, e => by
    obtain ⟨U', h', p⟩ := RlL.put h (i := i) r (by simpa using e)
    exact ⟨U', .emp h', p⟩
  | _, _, _, 0, .val h' r, e => by simp at e
  | _, _, _, i + 1, @RlL.val _ _ _ _ v0 d0 m0 u0 σ0 env0 U0 h0 r, e => by
    obtain ⟨U', h', p⟩ := RlL.put h (i := i) r (by simpa using e)
    exact ⟨u0 ++ U', .val h0 h', (p.append_left u0).trans (List.perm_append_comm_assoc u0 u U0)⟩
  | _, _, _, 0, .cau _ _ _ r, e => by simp at e
  | _, _, _, i + 1, @RlL.cau _ _ _ _ a dx w d0 σ0 env0 U0 h1 h2 h3 r, e => by
    obtain ⟨U', h', p⟩ := RlL.put h (i := i) r (by simpa using e)
    exact ⟨dx :: U', .cau h1 h2 h3 h', (p.cons dx).trans List.perm_middle.symm⟩
theorem Rl.put {v : V} {d : D} {m : M} {u : List Addr} {i : Nat} (h : RelD K G H v d m u) (r : Rl K T G H σ env U) (e : env[i]? = some none) : Rl K T G H (σ.set i (some v)) (env.set i (some (.val d m))) (u ++ U) := by
  obtain ⟨U0, h0, p⟩ := r
  obtain ⟨U', h1, p1⟩ := h0.put h e
  exact ⟨U', h1, p1.trans (p.append_left u)⟩
theorem set_same {α : Type} : ∀ {l : List α} {i : Nat} {x : α}, l[i]? = some x → l.set i x = l
  | [], _, _, h => by simp at h
  | _ :: _, 0, _, h => by simp at h; subst h; rfl
  | _ :: l, i + 1, _, h => by
    have := set_same (l := l) (i := i) (by simpa using h)
    rw [List.set_cons_succ, this]
theorem Rl.back {v : V} {d : D} {m : M} {u : List Addr} {i : Nat} (h : RelD K G H v d m u) (hv : σ[i]? = some (some v)) (r : Rl K T G H σ (env.set i none) U) (hi : i < env.length) : Rl K T G H σ (env.set i (some (.val d m))) (u ++ U) := by
  have z := Rl.put (i := i) h r (by rw [List.getElem?_set_self hi])
  rw [set_same hv, List.set_set] at z
  exact z
theorem get_lt {α : Type} {l : List α} {i : Nat} {x : α} (h : l[i]? = some x) : i < l.length := by
  by_cases q : i < l.length
  · exact q
  · rw [List.getElem?_eq_none (by omega)] at h; cases h
end
end Vs

namespace Vs
open PySem L2

inductive Rs (α : Type) where
  | ok (a : α) (e : Env)
  | ex (c : Str) (w : D) (e : Env)
  | no
def Rs.bind {α β : Type} (r : Rs α) (k : α → Env → Rs β) : Rs β := match r with
  | .ok a e => k a e
  | .ex c w e => .ex c w e
  | .no => .no
inductive OR where
  | tmp (d : D) (m : M)
  | slot (i : Nat)
def rd (o : OR) (e : Env) : Option D := match o with
  | .tmp d _ => some d
  | .slot i => match e[i]? with
    | some (some (.val d _)) => some d
    | _ => none
def cut (o : OR) (e : Env) : Option (D × Env) := match o with
  | .tmp d _ => some (d, e)
  | .slot i => match e[i]? with
    | some (some (.val d _)) => some (d, e.set i (some (.val d .fz)))
    | _ => none
def rds : List OR → Env → Option (List D)
  | [], _ => some []
  | o :: os, e => match rd o e, rds os e with
    | some d, some ds => some (d :: ds)
    | _, _ => none
def cuts : List OR → Env → Option (List D × Env)
  | [], e => some ([], e)
  | o :: os, e => match cut o e with
    | some (d, e1) => (match cuts os e1 with
      | some (ds, e2) => some (d :: ds, e2)
      | none => none)
    | none => none
section
variable (K : PySem.W.Frag) (T : CxA)
def ROr (σ : St) (G H : Hp) (v : V) (o : OR) (u : List Addr) : Prop := match o with
  | .tmp d m => RelD K G H v d m u
  | .slot i => σ[i]? = some (some v) ∧ u = []
inductive RAs (σ : St) (G H : Hp) : List V → List OR → List Addr → Prop
  | nil : RAs σ G H [] [] []
  | cons {v : V} {o : OR} {u : List Addr} {vs : List V} {os : List OR} {u' : List Addr} : ROr K σ G H v o u → RAs σ G H vs os u' → RAs σ G H (v :: vs) (o :: os) (u ++ u')
abbrev RelB (α β : Type) := St → Hp → Hp → β → α → List Addr → Prop
abbrev rE : RelB OR V := ROr K
abbrev rA : RelB (List OR) (List V) := RAs K
def rT : RelB Bool Bool := fun _ _ _ b a u => b = a ∧ u = []
def Post {α β : Type} (rel : RelB α β) (W : WX) (σ : St) (G H : Hp) (U : List Addr) (r : Rs α) (Q : β → Hp → Prop) : Prop := match r with
  | .ok a e => ∀ b G' H' u U', Mv G H U G' H' (u ++ U') → rel σ G' H' b a u → Rl K T G' H' σ e U' → Q b H'
  | .ex c w e => ∀ dx v G' H' U', Mv G H U G' H' (dx :: U') → H' dx = some (.xd [(("what" : Str), v)]) → Fz K G' v w → Rl K T G' H' σ e U' → W (.ref (He.ga K c)) (some dx) σ H'
  | .no => False
def Snd {α β : Type} (rel : RelB α β) (W : WX) (t : St → Hp → (β → Hp → Prop) → Prop) (s : Env → Rs α) : Prop :=
  ∀ σ G H env U, Wf G H U → Rl K T G H σ env U → ∀ Q, Post K T rel W σ G H U (s env) Q → t σ H Q
end
section
variable {K : PySem.W.Frag} {T : CxA} {W : WX} {σ : St} {G H G1 H1 G2 H2 G' H' : Hp} {U U1 U2 U' u u' R : List Addr} {env : Env}
theorem pm1 (a b c : List Addr) : ((a ++ b) ++ c).Perm ((a ++ c) ++ b) := by
  rw [List.append_assoc, List.append_assoc]
  exact (List.perm_append_comm (l₁ := b) (l₂ := c)).append_left a
theorem post_bind {α α1 β β1 : Type} {rel : RelB α β} {rel1 : RelB α1 β1} {r : Rs α1} {k : α1 → Env → Rs α} {Q : β → Hp → Prop} {Q1 : β1 → Hp → Prop} (m1 : Mv G H U G1 H1 (u ++ U1)) (h : Post K T rel W σ G H U (r.bind k) Q)
    (kk : ∀ b a e2 G2 H2 u2 U2, r = .ok a e2 → Mv G H U G2 H2 (u2 ++ (u ++ U2)) → Le G1 G2 → (∀ x ∈ u, H2 x = H1 x) → rel1 σ G2 H2 b a u2 → Rl K T G2 H2 σ e2 U2 → Q1 b H2) : Post K T rel1 W σ G1 H1 U1 r Q1 := by
  have w1 : Wf G1 H1 (U1 ++ u) := m1.wf.perm List.perm_append_comm
  cases r with
  | no => exact h
  | ok a e2 =>
    intro b G2 H2 u2 U2 m2 hr hl
    obtain ⟨m3, st⟩ := m2.frame w1
    refine kk b a e2 G2 H2 u2 U2 rfl (m1.trans ((m3.permL List.perm_append_comm).permR ?_)) m2.gg st hr hl
    rw [List.append_assoc]
    exact List.Perm.append_left _ List.perm_append_comm
  | ex c w e2 =>
    intro dx v G2 H2 U2 m2 hd hf hl
    obtain ⟨m3, st⟩ := m2.frame w1
    have m4 : Mv G1 H1 (U1 ++ u) G2 H2 (dx :: U2) := (m3.permR List.perm_append_comm).trans (Mv.forget (m3.wf.perm List.perm_append_comm))
    exact h dx v G2 H2 U2 (m1.trans (m4.permL List.perm_append_comm)) hd hf hl
theorem ROr.mono {v : V} {o : OR} (s : Le G G') (k : ∀ a ∈ u, H' a = H a) (h : ROr K σ G H v o u) : ROr K σ G' H' v o u := by
  cases o with
  | tmp d m => exact RelD.mono s k h
  | slot i => exact h
theorem RAs.mono (s : Le G G') : ∀ {vs : List V} {os : List OR} {u : List Addr}, (∀ a ∈ u, H' a = H a) → RAs K σ G H vs os u → RAs K σ G' H' vs os u
  | _, _, _, _, .nil => .nil
  | _, _, _, k, .cons h t => .cons (h.mono s fun a ha => k a (by simp [ha])) (RAs.mono s (fun a ha => k a (by simp [ha])) t)
theorem rd_ok {v : V} {o : OR} {d : D} (s : Same G H) (h : ROr K σ G H v o u) (r : Rl K T G H σ env U) (e : rd o env = some d) : Fz K H v d := by
  cases o with
  | tmp d' m =>
    simp only [rd, Option.some.injEq] at e
    subst e
    exact RelD.now s h
  | slot i =>
    simp only [rd] at e
    split at e
    · rename_i d' m he
      cases e
      obtain ⟨v', u', U', h1, h2, _, _⟩ := r.takeV he
      have : v' = v := by
        have z := h1.symm.trans h.1
        cases z; rfl
      subst this
      exact h2.now s
    · cases e
theorem rds_ok (s : Same G H) (r : Rl K T G H σ env U) : ∀ {vs : List V} {os : List OR} {u : List Addr} {ds : List D}, RAs K σ G H vs os u → rds os env = some ds → FzL K H vs ds
  | _, _, _, _, .nil, e => by simp only [rds, Option.some.injEq] at e; subst e; exact .nil
  | _, _, _, _, .cons h t, e => by
    simp only [rds] at e
    split at e
    · rename_i d ds h1 h2
      cases e
      exact .cons (rd_ok s h r h1) (rds_ok s r t h2)
    · cases e
theorem cut_ok {v : V} {o : OR} {d : D} {env' : Env} (w : Wf G H (u ++ U)) (h : ROr K σ G H v o u) (r : Rl K T G H σ env U) (e : cut o env = some (d, env')) : ∃ G' U', Mv G H (u ++ U) G' H U' ∧ Fz K G' v d ∧ Rl K T G' H σ env' U' := by
  cases o with
  | tmp d' m =>
    simp only [cut, Option.some.injEq, Prod.mk.injEq] at e
    obtain ⟨rfl, rfl⟩ := e
    obtain ⟨m1, sg, k⟩ := Mv.freeze w
    exact ⟨_, U, m1, RelD.freeze (Le.of sg) k h, r.mono (Le.of sg) fun _ _ => rfl⟩
  | slot i =>
    simp only [cut] at e
    split at e
    · rename_i d' m he
      cases e
      obtain ⟨hv, rfl⟩ := h
      obtain ⟨v', u', U', h1, h2, h3, h4⟩ := r.takeV he
      have : v' = v := by
        have z := h1.symm.trans hv
        cases z; rfl
      subst this
      have w' : Wf G H (u' ++ U') := (show Wf G H U from w).perm h4.symm
      obtain ⟨m1, sg, k⟩ := Mv.freeze w'
      have f := RelD.freeze (Le.of sg) k h2
      refine ⟨_, U', (m1.permL h4), f, ?_⟩
      have := Rl.back (.fz f) h1 (h3.mono (Le.of sg) fun _ _ => rfl) (get_lt he)
      exact this
    · cases e
theorem cuts_ok {os : List OR} : ∀ {G : Hp} {env : Env} {U : List Addr} {vs : List V} {u : List Addr} {ds : List D} {env' : Env}, Wf G H (u ++ U) → RAs K σ G H vs os u → Rl K T G H σ env U → cuts os env = some (ds, env') → ∃ G' U', Mv G H (u ++ U) G' H U' ∧ FzL K G' vs ds ∧ Rl K T G' H σ env' U' := by
  induction os with
  | nil =>
    intro G env U vs u ds env' w a r e
    cases a
    simp only [cuts, Option.some.injEq, Prod.mk.injEq] at e
    obtain ⟨rfl, rfl⟩ := e
    exact ⟨G, U, Mv.refl w, .nil, r⟩
  | cons o os ih =>
    intro G env U vs u ds env' w a r e
    cases a with
    | @cons v _ u1 vs _ u2 h t =>
    simp only [cuts] at e
    split at e
    · rename_i d e1 h1
      split at e
      · rename_i ds e2 h2
        cases e
        have w1 : Wf G H ((u1 ++ U) ++ u2) := w.perm (by rw [List.append_assoc, List.append_assoc]; exact List.Perm.append_left _ List.perm_append_comm)
        obtain ⟨G1, U1, m1, f1, r1⟩ := cut_ok w1.left h r h1
        obtain ⟨m2, st⟩ := m1.frame w1
        have w2 : Wf G1 H (u2 ++ U1) := m2.wf.perm List.perm_append_comm
        obtain ⟨G2, U2, m3, f2, r2⟩ := ih w2 (t.mono m1.gg fun _ _ => rfl) r1 h2
        refine ⟨G2, U2, ?_, .cons (f1.mono K m3.gg) f2, r2⟩
        exact (m2.trans (m3.permL List.perm_append_comm)).permL (by rw [List.append_assoc, List.append_assoc]; exact List.Perm.append_left _ List.perm_append_comm)
      · cases e
    · cases e

def sLit (d : D) : Env → Rs OR := fun e => .ok (.tmp d .fz) e
def sVar (i : Nat) : Env → Rs OR := fun e => match e[i]? with
  | some (some (.val _ _)) => .ok (.slot i) e
  | _ => .no
theorem snd_c {v : V} {d : D} (h : ∀ G, Fz K G v d) : Snd K T (rE K) W (tC v) (sLit d) := fun σ G H env U w r Q p => p v G H [] U (Mv.refl w) (.fz (h G)) r
theorem snd_int {i : Int} : Snd K T (rE K) W (tC (.int i)) (sLit (.int i)) := snd_c fun _ => .int i
theorem snd_bl {b : Bool} : Snd K T (rE K) W (tC (.bl b)) (sLit (.bl b)) := snd_c fun _ => .bl b
theorem snd_str {x : Str} : Snd K T (rE K) W (tC (.str x)) (sLit (.str x)) := snd_c fun _ => .str x
theorem snd_non : Snd K T (rE K) W (tC .non) (sLit .non) := snd_c fun _ => .non
theorem snd_ty {x : String} : Snd K T (rE K) W (tC (.ty x)) (sLit (.ty x)) := snd_c fun _ => .ty x
theorem snd_glo {x : Str} : Snd K T (rE K) W (tC (.ref (He.ga K x))) (sLit (.glo x)) := snd_c fun _ => .glo x
theorem snd_var {i : Nat} : Snd K T (rE K) W (tVar i) (sVar i) := fun σ G H env U w r Q p => by
  unfold sVar at p
  split at p
  · rename_i d m he
    obtain ⟨v, u, U', h1, h2, h3, h4⟩ := r.takeV he
    exact ⟨v, h1, p v G H [] U (Mv.refl w) ⟨h1, rfl⟩ r⟩
  · exact p.elim
abbrev SA := Env → Rs (List OR)
abbrev SE := Env → Rs OR
def sNil : SA := fun e => .ok [] e
def sCons (a : SE) (r : SA) : SA := fun e => (a e).bind fun x e1 => (r e1).bind fun xs e2 => .ok (x :: xs) e2
theorem snd_nil : Snd K T (rA K) W tNil sNil := fun σ G H env U w r Q p => p [] G H [] U (Mv.refl w) .nil r
theorem snd_cons {ta : TE} {tr : TA} {a : SE} {s : SA} (ha : Snd K T (rE K) W ta a) (hr : Snd K T (rA K) W tr s) : Snd K T (rA K) W (tCons ta tr) (sCons a s) := fun σ G H env U w r Q p => by
  refine ha σ G H env U w r _ (post_bind (u := []) (Mv.refl w) p fun x o e1 G1 H1 u1 U1 e m1 _ _ h1 r1 => ?_)
  rw [List.nil_append] at m1
  rw [show sCons a s env = ((s e1).bind fun xs e2 => .ok (o :: xs) e2) by unfold sCons; rw [e]; rfl] at p
  refine hr σ G1 H1 e1 U1 m1.wf.right r1 _ (post_bind m1 p fun xs os e2 G2 H2 u2 U2 e' m2 g2 st h2 r2 => ?_)
  rw [e'] at p
  refine p (x :: xs) G2 H2 (u1 ++ u2) U2 (m2.permR ?_) (.cons (h1.mono g2 st) h2) r2
  rw [← List.append_assoc]
  exact List.Perm.append_right _ List.perm_append_comm
def CbS (K : PySem.W.Frag) (T : CxA) (W : WX) (r : List V → Hp → VK → Prop) (f : List OR → Env → Rs OR) : Prop :=
  ∀ σ G H vs os u env U Q, Wf G H (u ++ U) → RAs K σ G H vs os u → Rl K T G H σ env U → Post K T (rE K) W σ G H (u ++ U) (f os env) Q → r vs H Q
def sCB (f : List OR → Env → Rs OR) (a : SA) : SE := fun e => (a e).bind f
theorem snd_cb {r : List V → Hp → VK → Prop} {f : List OR → Env → Rs OR} {ta : TA} {a : SA} (ha : Snd K T (rA K) W ta a) (hr : CbS K T W r f) : Snd K T (rE K) W (tCB r ta) (sCB f a) := fun σ G H env U w rl Q p => by
  refine ha σ G H env U w rl _ (post_bind (u := []) (Mv.refl w) p fun vs os e1 G1 H1 u1 U1 e m1 _ _ h1 r1 => ?_)
  rw [List.nil_append] at m1
  rw [show sCB f a env = f os e1 by unfold sCB; rw [e]; rfl] at p
  refine hr σ G1 H1 vs os u1 e1 U1 Q m1.wf h1 r1 ?_
  cases q : f os e1 with
  | no => rw [q] at p; exact p
  | ok o e2 =>
    rw [q] at p
    exact fun b G2 H2 u2 U2 m2 h2 r2 => p b G2 H2 u2 U2 (m1.trans m2) h2 r2
  | ex c w' e2 =>
    rw [q] at p
    exact fun dx v G2 H2 U2 m2 h2 h3 r2 => p dx v G2 H2 U2 (m1.trans m2) h2 h3 r2
def l1 (r : V → Hp → VK → Prop) : List V → Hp → VK → Prop := fun vs H Q => match vs with
  | [x] => r x H Q
  | _ => False
def l2 (r : R2) : List V → Hp → VK → Prop := fun vs H Q => match vs with
  | [x, y] => r x y H Q
  | _ => False
def sOp1 (f : List OR → Env → Rs OR) (a : SE) : SE := sCB f (sCons a sNil)
def sOp2 (f : List OR → Env → Rs OR) (a b : SE) : SE := sCB f (sCons a (sCons b sNil))
theorem snd_op2 {r : R2} {f : List OR → Env → Rs OR} {ta tb : TE} {a b : SE} (hr : CbS K T W (l2 r) f) (ha : Snd K T (rE K) W ta a) (hb : Snd K T (rE K) W tb b) : Snd K T (rE K) W (tOp r ta tb) (sOp2 f a b) :=
  show Snd K T (rE K) W (tCB (l2 r) (tCons ta (tCons tb tNil))) _ from snd_cb (snd_cons ha (snd_cons hb snd_nil)) hr
theorem snd_op1 {r : V → Hp → VK → Prop} {f : List OR → Env → Rs OR} {ta : TE} {a : SE} (hr : CbS K T W (l1 r) f) (ha : Snd K T (rE K) W ta a) : Snd K T (rE K) W (tUn r ta) (sOp1 f a) :=
  show Snd K T (rE K) W (tCB (l1 r) (tCons ta tNil)) _ from snd_cb (snd_cons ha snd_nil) hr
def fRd (g : List D → Option D) : List OR → Env → Rs OR := fun os e => match rds os e with
  | some ds => (match g ds with
    | some z => .ok (.tmp z .fz) e
    | none => .no)
  | none => .no
def RdR (K : PySem.W.Frag) (r : List V → Hp → VK → Prop) (g : List D → Option D) : Prop := ∀ vs ds z H, FzL K H vs ds → g ds = some z → ∃ v, (∀ G, Fz K G v z) ∧ ∀ Q : VK, Q v H → r vs H Q
theorem cbs_rd {r : List V → Hp → VK → Prop} {g : List D → Option D} (h : RdR K r g) : CbS K T W r (fRd g) := fun σ G H vs os u env U Q w a rl p => by
  unfold fRd at p
  split at p
  · rename_i ds e
    split at p
    · rename_i z ez
      obtain ⟨v, hv, hq⟩ := h vs ds z H (rds_ok w.gh rl a e) ez
      exact hq Q (p v G H [] U (Mv.forget w) (.fz (hv G)) rl)
    · exact p.elim
  · exact p.elim
def fMk (g : List D → Option (D × M)) : List OR → Env → Rs OR := fun os e => match cuts os e with
  | some (ds, e1) => (match g ds with
    | some (z, m) => .ok (.tmp z m) e1
    | none => .no)
  | none => .no
def MkK (K : PySem.W.Frag) (r : List V → Hp → VK → Prop) (g : List D → Option (D × M)) : Prop := ∀ vs ds z m G H, Same G H → FzL K G vs ds → g ds = some (z, m) → ∀ Q : VK,
  (∀ v G' H' u, Mv G H [] G' H' u → RelD K G' H' v z m u → Q v H') → r vs H Q
theorem cbs_mk {r : List V → Hp → VK → Prop} {g : List D → Option (D × M)} (h : MkK K r g) : CbS K T W r (fMk g) := fun σ G H vs os u env U Q w a rl p => by
  unfold fMk at p
  split at p
  · rename_i ds e1 e
    split at p
    · rename_i z m ez
      obtain ⟨G1, U1, m1, f1, r1⟩ := cuts_ok w a rl e
      refine h vs ds z m G1 H m1.wf.gh f1 ez Q fun v G2 H2 u2 m2 h2 => ?_
      obtain ⟨m3, st⟩ := m2.frame (R := U1) m1.wf
      exact p v G2 H2 u2 U1 (m1.trans m3) h2 (r1.mono m2.gg st)
    · exact p.elim
  · exact p.elim
end
end Vs

namespace L2
open PySem PySem.Spec PyProof.Rows
section
variable {X : Cx} {K : PySem.W.Frag}
def orR (r r' : R2) : R2 := fun x y H Q => r x y H Q ∨ r' x y H Q
theorem op_orR {f : Value → Value → Sem Value} {r r' : R2} (h : OpR X f r) (h' : OpR X f r') : OpR X f (orR r r') := OpR.or h h'
theorem ix_orR {r r' : R2} (h : IxR X r) (h' : IxR X r') : IxR X (orR r r') := by
  intro value slice pins s σ H x y v u Q I rx ry q hs
  rcases q with q | q
  · exact h value slice pins s σ H x y v u Q I rx ry q hs
  · exact h' value slice pins s σ H x y v u Q I rx ry q hs
theorem call_or {f : Value} {r r' : List V → Hp → VK → Prop} (h : CallR X f r) (h' : CallR X f r') : CallR X f (fun vs H Q => r vs H Q ∨ r' vs H Q) := by
  intro pins s σ H xs us Q I r q
  rcases q with q | q
  · exact h pins s σ H xs us Q I r q
  · exact h' pins s σ H xs us Q I r q
theorem PE.or {e : Expr} {t t' : TE} (h : PE X e t) (h' : PE X e t') : PE X e (fun σ H Q => t σ H Q ∨ t' σ H Q) := ⟨fun pins s σ H Q I q => q.elim (h.run pins s σ H Q I) (h'.run pins s σ H Q I)⟩
theorem PI.or {tg e : Expr} {t t' : TI} (h : PI X tg e t) (h' : PI X tg e t') : PI X tg e (fun σ H Q => t σ H Q ∨ t' σ H Q) := ⟨fun pins s σ H Q I q => q.elim (h.run pins s σ H Q I) (h'.run pins s σ H Q I)⟩
abbrev rStrCat : R2 := fun x y H Q => ∃ i j, x = .str i ∧ y = .str j ∧ i.length + j.length ≤ sizeLine ∧ Q (.str (i ++ j)) H
def rAddU (K : PySem.W.Frag) : R2 := orR (rI0 fun i j => .int (i + j)) (orR rStrCat (orR (rCatN K) rCat))
theorem op_addU (h : X.K = K) : OpR X (binaryOp .Add) (rAddU K) := op_orR op_add (op_orR op_add_str (op_orR (op_catN h) op_cat))
def rFdivU : R2 := orR (rI CDivW fun i j => .int (i / j)) (rI CDivN fun i j => .int (i.fdiv j))
theorem op_fdivU : OpR X (binaryOp .FloorDiv) rFdivU := op_orR op_fdivW op_fdivN
def rLtU (K : PySem.W.Frag) : R2 := orR (rI0 fun i j => .bl (decide (i < j))) (orR (fun x y H Q => ∃ i j, x = .str i ∧ y = .str j ∧ Q (.bl (decide (i.cps.toList < j.cps.toList))) H) (rLtT K))
theorem op_ltU (h : X.K = K) (hu : X.A.units < cLine) : OpR X (compareOp .Lt) (rLtU K) := h ▸ op_orR op_lt (op_orR op_lt_str (op_ltT hu))
def rGtU : R2 := orR (rI0 fun i j => .bl (decide (j < i))) (fun x y H Q => ∃ i j, x = .str i ∧ y = .str j ∧ Q (.bl (decide (j.cps.toList < i.cps.toList))) H)
theorem op_gtU : OpR X (compareOp .Gt) rGtU := op_orR op_gt op_gt_str
def rEqU (K : PySem.W.Frag) : R2 := orR rEq (orR (rEqD K) rEqDA)
theorem op_eqU (h : X.K = K) (hu : X.A.units + 64 < cLine) : OpR X (compareOp .Eq) (rEqU K) := op_orR op_eq (op_orR (op_eqDK h hu) (op_eq_dictA (by omega)))
def rNeU (K : PySem.W.Frag) : R2 := orR rNe (orR (rNeD K) rNeDA)
theorem op_neU (h : X.K = K) (hu : X.A.units + 64 < cLine) : OpR X (compareOp .NotEq) (rNeU K) := op_orR op_ne (op_orR (op_neDK h hu) (op_ne_dictA (by omega)))
def rIxU (K : PySem.W.Frag) : R2 := orR (rIxL K) (orR (rIxT K) rIxS)
theorem ix_U (h : X.K = K) : IxR X (rIxU K) := ix_orR (ix_listK h) (ix_orR (ix_tupK h) ix_str)
def tIxU (K : PySem.W.Frag) (ta tb : TE) : TE := fun σ H Q => tOp (rIxU K) ta tb σ H Q ∨ tDGet ta tb σ H Q
theorem pe_ixU {a b : Expr} {ta tb : TE} {pos : Pos} (h : X.K = K) (hu : X.A.units + 1 < cLine) (ha : PE X a ta) (hb : PE X b tb) (hs : PlainIx b) (hn : NoSl b) : PE X (.Subscript a b pos) (tIxU K ta tb) := PE.or (pe_ix (ix_U h) ha hb hs) (pe_dget hu ha hb hn)
end
end L2
namespace Vs
open PySem L2
mutual
def toPy : D → Option PyData
  | .non => some .none
  | .bl b => some (.bool b)
  | .int i => some (.int i)
  | .str x => some (.str x)
  | .lst l => (toPyL l).map .list
  | .tup l => (toPyL l).map .tuple
  | .htp l => (toPyL l).map .tuple
  | _ => none
def toPyL : List D → Option (List PyData)
  | [] => some []
  | d :: l => match toPy d, toPyL l with
    | some p, some q => some (p :: q)
    | _, _ => none
end
section
variable {K : PySem.W.Frag} {H : Hp}
mutual
theorem fz_dp : ∀ {v : V} {d : D} {p : PyData}, Fz K H v d → toPy d = some p → Dp K H v p
  | _, _, _, .non, e => by simp only [toPy, Option.some.injEq] at e; subst e; exact .non
  | _, _, _, .bl b, e => by simp only [toPy, Option.some.injEq] at e; subst e; exact .bl b
  | _, _, _, .int i, e => by simp only [toPy, Option.some.injEq] at e; subst e; exact .int i
  | _, _, _, .str x, e => by simp only [toPy, Option.some.injEq] at e; subst e; exact .str x
  | _, _, _, .lst h a, e => by
    simp only [toPy, Option.map_eq_some_iff] at e
    obtain ⟨q, e, rfl⟩ := e
    exact .lst (SqL.of h) (fz_dpl a e)
  | _, _, _, .tup h a, e => by
    simp only [toPy, Option.map_eq_some_iff] at e
    obtain ⟨q, e, rfl⟩ := e
    exact .tup h.sq0 (fz_dpl a e)
  | _, _, _, .pr _ _ _, e => by simp [toPy] at e
  | _, _, _, .ty n, e => by simp [toPy] at e
  | _, _, _, .glo x, e => by simp [toPy] at e
  | _, _, _, .scr h a, e => by simp [toPy] at e
  | _, _, _, .dic h a, e => by simp [toPy] at e
  | _, _, _, .dit h a, e => by simp [toPy] at e
  | _, _, _, .ins h a, e => by simp [toPy] at e
  | _, _, _, .rng h, e => by simp [toPy] at e
  | _, _, _, .htp h a, e => by
    simp only [toPy, Option.map_eq_some_iff] at e
    obtain ⟨q, e, rfl⟩ := e
    exact .tup h.sq0 (fz_dpl a e)
theorem fz_dpl : ∀ {vs : List V} {ds : List D} {ps : List PyData}, FzL K H vs ds → toPyL ds = some ps → DpAll K H vs ps
  | _, _, _, .nil, e => by simp only [toPyL, Option.some.injEq] at e; subst e; exact .nil
  | _, _, _, .cons h t, e => by
    simp only [toPyL] at e
    split at e
    · rename_i p q e1 e2
      cases e
      exact .cons (fz_dp h e1) (fz_dpl t e2)
    · cases e
end
end
abbrev lim : Nat := 1000000
theorem lim_le : lim ≤ sizeLine := by decide
theorem fzl_two {K : PySem.W.Frag} {H : Hp} {vs : List V} {a b : D} (h : FzL K H vs [a, b]) : ∃ x y, vs = [x, y] ∧ Fz K H x a ∧ Fz K H y b := by
  cases h with
  | cons h1 t => cases t with
    | cons h2 t => cases t; exact ⟨_, _, rfl, h1, h2⟩
theorem fzl_one {K : PySem.W.Frag} {H : Hp} {vs : List V} {a : D} (h : FzL K H vs [a]) : ∃ x, vs = [x] ∧ Fz K H x a := by
  cases h with
  | cons h1 t => cases t; exact ⟨_, rfl, h1⟩
section
variable {K : PySem.W.Frag}
theorem FzL.length {G : Hp} : ∀ {vs : List V} {ds : List D}, FzL K G vs ds → vs.length = ds.length
  | _, _, .nil => rfl
  | _, _, .cons _ t => congrArg (· + 1) (FzL.length t)
theorem FzL.append {G : Hp} : ∀ {vs ws : List V} {ds es : List D}, FzL K G vs ds → FzL K G ws es → FzL K G (vs ++ ws) (ds ++ es)
  | _, _, _, _, .nil, h => h
  | _, _, _, _, .cons a t, h => .cons a (FzL.append t h)
theorem FzL.take {G : Hp} : ∀ {vs : List V} {ds : List D} (n : Nat), FzL K G vs ds → FzL K G (vs.take n) (ds.take n)
  | _, _, 0, _ => .nil
  | _, _, _ + 1, .nil => .nil
  | _, _, n + 1, .cons h t => .cons h (FzL.take n t)
theorem FzL.drop {G : Hp} : ∀ {vs : List V} {ds : List D} (n : Nat), FzL K G vs ds → FzL K G (vs.drop n) (ds.drop n)
  | _, _, 0, h => h
  | _, _, _ + 1, .nil => .nil
  | _, _, n + 1, .cons _ t => FzL.drop n t
theorem FzL.get {G : Hp} : ∀ {vs : List V} {ds : List D} {i : Nat} {d : D}, FzL K G vs ds → ds[i]? = some d → ∃ v, vs[i]? = some v ∧ Fz K G v d
  | _, _, _, _, .nil, e => by simp at e
  | _, _, 0, _, .cons h _, e => by simp at e; subst e; exact ⟨_, rfl, h⟩
  | _, _, i + 1, d, .cons _ t, e => by
    obtain ⟨v, h1, h2⟩ := FzL.get (i := i) (d := d) t (by simpa using e)
    exact ⟨v, by simpa using h1, h2⟩
theorem mk_old {vs : List V} {z : D} {G H : Hp} {Q : VK} {v : V} (s : Same G H) (h : Fz K G v z) (q : ∀ v G' H' u, Mv G H [] G' H' u → RelD K G' H' v z .fz u → Q v H') : Q v H :=
  q v G H [] (Mv.refl ⟨s, fun _ h => absurd h (by simp), List.nodup_nil, fun _ h => absurd h (by simp), fun _ h => absurd h (by simp)⟩) (.fz h)
theorem wf0 {G H : Hp} (s : Same G H) : Wf G H [] := ⟨s, fun _ h => absurd h (by simp), List.nodup_nil, fun _ h => absurd h (by simp), fun _ h => absurd h (by simp)⟩
theorem mk_tup {vs : List V} {ds : List D} {G H : Hp} {Q : VK} (s : Same G H) (h : FzL K G vs ds) (q : ∀ v G' H' u, Mv G H [] G' H' u → RelD K G' H' v (.tup ds) .fz u → Q v H') : NewT vs H Q := by
  cases k : ds.all kyD with
  | true =>
    refine .inl fun p hp => ?_
    have m := Mv.newG (wf0 s) (o := .tup vs) hp
    exact q _ _ _ _ m (.fz (.tup (.mk1 k upd_same) (h.mono K m.gg)))
  | false =>
    refine .inr fun p o hp hn => ?_
    have m := Mv.newG (wf0 s) (o := .frz o (.tup vs)) hp
    exact q _ _ _ _ m (.fz (.tup (.mk2 k upd_same hn) (h.mono K m.gg)))
theorem mk_lst {vs : List V} {ds : List D} {G H : Hp} {Q : VK} {p : Addr} (s : Same G H) (h : FzL K G vs ds) (q : ∀ v G' H' u, Mv G H [] G' H' u → RelD K G' H' v (.lst ds) (.nd true []) u → Q v H') (hp : H p = none) : Q (.ref p) (upd H p (.lst vs)) := by
  have m := Mv.newO (wf0 s) (o := .lst vs) hp
  exact q _ _ _ _ m (.lst upd_same (.fz h))
def gAdd : List D → Option (D × M)
  | [.int i, .int j] => some (.int (i + j), .fz)
  | [.str x, .str y] => if x.length + y.length ≤ lim then some (.str (x ++ y), .fz) else none
  | [.tup a, .tup b] => if a.length + b.length ≤ lim then some (.tup (a ++ b), .fz) else none
  | [.lst a, .lst b] => if a.length + b.length ≤ lim then some (.lst (a ++ b), .nd true []) else none
  | _ => none
theorem mk_add : MkK K (l2 (rAddU K)) gAdd := fun vs ds z m G H s h e Q q => by
  unfold gAdd at e
  split at e
  · cases e
    obtain ⟨x, y, rfl, h1, h2⟩ := fzl_two h
    cases h1; cases h2
    exact .inl ⟨_, _, rfl, rfl, mk_old (vs := []) s (.int _) q⟩
  · split at e
    · rename_i hl
      cases e
      obtain ⟨x, y, rfl, h1, h2⟩ := fzl_two h
      cases h1; cases h2
      exact .inr (.inl ⟨_, _, rfl, rfl, Nat.le_trans hl lim_le, mk_old (vs := []) s (.str _) q⟩)
    · cases e
  · split at e
    · rename_i hl
      cases e
      obtain ⟨x, y, rfl, h1, h2⟩ := fzl_two h
      cases h1 with
      | @tup a va da e1 f1 =>
      cases h2 with
      | @tup b vb db e2 f2 =>
      have l1 := f1.length
      have l2 := f2.length
      refine .inr (.inr (.inl ⟨a, b, va, vb, rfl, rfl, e1.sq s, e2.sq s, Nat.le_trans (by rw [l1, l2]; exact hl) lim_le, fun hn => ?_, fun _ hn => ?_, fun _ _ => ?_⟩))
      · subst hn; cases f1
        exact mk_old (vs := []) s (.tup e2 f2) q
      · subst hn; cases f2
        rw [List.append_nil] at q
        exact mk_old (vs := []) s (.tup e1 f1) q
      · exact mk_tup s (f1.append f2) q
    · cases e
  · split at e
    · rename_i hl
      cases e
      obtain ⟨x, y, rfl, h1, h2⟩ := fzl_two h
      cases h1 with
      | @lst a va da e1 f1 =>
      cases h2 with
      | @lst b vb db e2 f2 =>
      have l1 := f1.length
      have l2 := f2.length
      exact .inr (.inr (.inr ⟨a, b, va, vb, rfl, rfl, s _ _ e1, s _ _ e2, Nat.le_trans (by rw [l1, l2]; exact hl) lim_le, fun p hp => mk_lst s (f1.append f2) q hp⟩))
    · cases e
  · cases e
def gMinus : List D → Option D
  | [.int i, .int j] => some (.int (i - j))
  | _ => none
def gDiv : List D → Option D
  | [.int i, .int j] => if 0 < j ∧ j.natAbs.log2 < 9000 then some (.int (i / j)) else if j ≠ 0 ∧ j.natAbs < 1073741824 then some (.int (i.fdiv j)) else none
  | _ => none
def gMod : List D → Option D
  | [.int i, .int j] => if 0 < j then some (.int (i % j)) else none
  | _ => none
def gPow : List D → Option D
  | [.int i, .int j] => if 0 ≤ j ∧ j ≤ 1000000 ∧ i.natAbs < 2 ^ 64 then some (.int (i ^ j.toNat)) else none
  | _ => none
def gNeg : List D → Option D
  | [.int i] => some (.int (-i))
  | _ => none
theorem rd_sub : RdR K (l2 (rI0 fun i j => .int (i - j))) gMinus := fun vs ds z H h e => by
  unfold gMinus at e
  split at e
  · cases e
    obtain ⟨x, y, rfl, h1, h2⟩ := fzl_two h
    cases h1; cases h2
    exact ⟨_, fun _ => .int _, fun Q q => ⟨_, _, rfl, rfl, q⟩⟩
  · cases e
theorem rd_div : RdR K (l2 rFdivU) gDiv := fun vs ds z H h e => by
  unfold gDiv at e
  split at e
  · split at e
    · rename_i hc
      cases e
      obtain ⟨x, y, rfl, h1, h2⟩ := fzl_two h
      cases h1; cases h2
      exact ⟨_, fun _ => .int _, fun Q q => .inl ⟨_, _, rfl, rfl, hc, q⟩⟩
    · split at e
      · rename_i hc
        cases e
        obtain ⟨x, y, rfl, h1, h2⟩ := fzl_two h
        cases h1; cases h2
        exact ⟨_, fun _ => .int _, fun Q q => .inr ⟨_, _, rfl, rfl, hc, q⟩⟩
      · cases e
  · cases e
theorem rd_mod : RdR K (l2 (rI (fun _ j => 0 < j) fun i j => .int (i % j))) gMod := fun vs ds z H h e => by
  unfold gMod at e
  split at e
  · split at e
    · rename_i hc
      cases e
      obtain ⟨x, y, rfl, h1, h2⟩ := fzl_two h
      cases h1; cases h2
      exact ⟨_, fun _ => .int _, fun Q q => ⟨_, _, rfl, rfl, hc, q⟩⟩
    · cases e
  · cases e
theorem rd_pow : RdR K (l2 (rI CPow fun i j => .int (i ^ j.toNat))) gPow := fun vs ds z H h e => by
  unfold gPow at e
  split at e
  · split at e
    · rename_i hc
      cases e
      obtain ⟨x, y, rfl, h1, h2⟩ := fzl_two h
      cases h1; cases h2
      exact ⟨_, fun _ => .int _, fun Q q => ⟨_, _, rfl, rfl, hc, q⟩⟩
    · cases e
  · cases e
theorem rd_neg : RdR K (l1 (rU fun i => .int (-i))) gNeg := fun vs ds z H h e => by
  unfold gNeg at e
  split at e
  · cases e
    obtain ⟨x, rfl, h1⟩ := fzl_one h
    cases h1
    exact ⟨_, fun _ => .int _, fun Q q => ⟨_, rfl, q⟩⟩
  · cases e
def deq (a b : D) : Option Bool := match a, b with
  | .str x, .str y => some (decide (x = y))
  | a, b => match toPy a, toPy b with
    | some p, some q => if SeqAt.shaped p && SeqAt.shaped q then some (PyData.eqv p q) else none
    | _, _ => none
def gEq : List D → Option D
  | [a, b] => (deq a b).map .bl
  | _ => none
def gNe : List D → Option D
  | [a, b] => (deq a b).map fun c => .bl !c
  | _ => none
theorem deq_cases {a b : D} {c : Bool} (e : deq a b = some c) : (∃ x y, a = .str x ∧ b = .str y ∧ c = decide (x = y)) ∨ ∃ p q, toPy a = some p ∧ toPy b = some q ∧ SeqAt.shaped p = true ∧ SeqAt.shaped q = true ∧ c = PyData.eqv p q := by
  unfold deq at e
  split at e
  · cases e
    exact .inl ⟨_, _, rfl, rfl, rfl⟩
  · split at e
    · rename_i p q h1 h2
      split at e
      · rename_i hs
        cases e
        rw [Bool.and_eq_true] at hs
        exact .inr ⟨p, q, h1, h2, hs.1, hs.2, rfl⟩
      · cases e
    · cases e
theorem dec_str (x y : Str) : decide (V.str x = V.str y) = decide (x = y) := by
  by_cases h : x = y
  · subst h; simp
  · rw [decide_eq_false h, decide_eq_false]
    intro e; cases e; exact h rfl
theorem rd_eq : RdR K (l2 (rEqU K)) gEq := fun vs ds z H h e => by
  unfold gEq at e
  split at e
  · rename_i a b
    rw [Option.map_eq_some_iff] at e
    obtain ⟨c, e, rfl⟩ := e
    obtain ⟨x, y, rfl, h1, h2⟩ := fzl_two h
    refine ⟨.bl c, fun _ => .bl _, fun Q q => ?_⟩
    rcases deq_cases e with ⟨i, j, rfl, rfl, rfl⟩ | ⟨p, r, e1, e2, s1, s2, rfl⟩
    · cases h1; cases h2
      exact .inl ⟨rfl, by rw [dec_str]; exact q⟩
    · exact .inr (.inl ⟨p, r, fz_dp h1 e1, fz_dp h2 e2, s1, s2, q⟩)
  · cases e
theorem rd_ne : RdR K (l2 (rNeU K)) gNe := fun vs ds z H h e => by
  unfold gNe at e
  split at e
  · rename_i a b
    rw [Option.map_eq_some_iff] at e
    obtain ⟨c, e, rfl⟩ := e
    obtain ⟨x, y, rfl, h1, h2⟩ := fzl_two h
    refine ⟨.bl !c, fun _ => .bl _, fun Q q => ?_⟩
    rcases deq_cases e with ⟨i, j, rfl, rfl, rfl⟩ | ⟨p, r, e1, e2, s1, s2, rfl⟩
    · cases h1; cases h2
      exact .inl ⟨rfl, by rw [dec_str]; exact q⟩
    · exact .inr (.inl ⟨p, r, fz_dp h1 e1, fz_dp h2 e2, s1, s2, q⟩)
  · cases e
def dInts : List D → Option (List Int)
  | [] => some []
  | .int i :: l => (dInts l).map (i :: ·)
  | _ :: _ => none
theorem fz_ints {H : Hp} : ∀ {vs : List V} {ds : List D} {ns : List Int}, FzL K H vs ds → dInts ds = some ns → vs = ns.map V.int
  | _, _, _, .nil, e => by simp only [dInts, Option.some.injEq] at e; subst e; rfl
  | _, _, _, .cons h t, e => by
    cases h with
    | int i =>
      simp only [dInts, Option.map_eq_some_iff] at e
      obtain ⟨l, e, rfl⟩ := e
      rw [fz_ints t e]; rfl
    | _ => simp [dInts] at e
def gLt : List D → Option D
  | [.int i, .int j] => some (.bl (decide (i < j)))
  | [.str x, .str y] => some (.bl (decide (x.cps.toList < y.cps.toList)))
  | [.tup a, .tup b] => (match dInts a, dInts b with
    | some x, some y => some (.bl (HT.lexLt x y))
    | _, _ => none)
  | _ => none
theorem rd_lt : RdR K (l2 (rLtU K)) gLt := fun vs ds z H h e => by
  unfold gLt at e
  split at e
  · cases e
    obtain ⟨x, y, rfl, h1, h2⟩ := fzl_two h
    cases h1; cases h2
    exact ⟨_, fun _ => .bl _, fun Q q => .inl ⟨_, _, rfl, rfl, q⟩⟩
  · cases e
    obtain ⟨x, y, rfl, h1, h2⟩ := fzl_two h
    cases h1; cases h2
    exact ⟨_, fun _ => .bl _, fun Q q => .inr (.inl ⟨_, _, rfl, rfl, q⟩)⟩
  · split at e
    · rename_i x y e1 e2
      cases e
      obtain ⟨v, w, rfl, h1, h2⟩ := fzl_two h
      cases h1 with
      | @tup a va _ g1 f1 =>
      cases h2 with
      | @tup b vb _ g2 f2 =>
      have k1 := fz_ints f1 e1
      have k2 := fz_ints f2 e2
      subst k1 k2
      exact ⟨_, fun _ => .bl _, fun Q q => .inr (.inr ⟨a, b, x, y, rfl, rfl, g1.sq0, g2.sq0, q⟩)⟩
    · cases e
  · cases e
def gLe : List D → Option D
  | [.int i, .int j] => some (.bl (decide (i ≤ j)))
  | [.str x, .str y] => some (.bl (!decide (y.cps.toList < x.cps.toList)))
  | _ => none
def gGt : List D → Option D
  | [.int i, .int j] => some (.bl (decide (j < i)))
  | [.str x, .str y] => some (.bl (decide (y.cps.toList < x.cps.toList)))
  | _ => none
theorem rd_gt : RdR K (l2 rGtU) gGt := fun vs ds z H h e => by
  unfold gGt at e
  split at e
  · cases e
    obtain ⟨x, y, rfl, h1, h2⟩ := fzl_two h
    cases h1; cases h2
    exact ⟨_, fun _ => .bl _, fun Q q => .inl ⟨_, _, rfl, rfl, q⟩⟩
  · cases e
    obtain ⟨x, y, rfl, h1, h2⟩ := fzl_two h
    cases h1; cases h2
    exact ⟨_, fun _ => .bl _, fun Q q => .inr ⟨_, _, rfl, rfl, q⟩⟩
  · cases e
def gGe : List D → Option D
  | [.int i, .int j] => some (.bl (decide (j ≤ i)))
  | _ => none
theorem rd_ge : RdR K (l2 (rI0 fun i j => .bl (decide (j ≤ i)))) gGe := fun vs ds z H h e => by
  unfold gGe at e
  split at e
  · cases e
    obtain ⟨x, y, rfl, h1, h2⟩ := fzl_two h
    cases h1; cases h2
    exact ⟨_, fun _ => .bl _, fun Q q => ⟨_, _, rfl, rfl, q⟩⟩
  · cases e
def keyOf : D → Option Key
  | .int i => some (.inl i)
  | .str x => some (.inr x)
  | _ => none
def keysOf : List D → Option (List Key)
  | [] => some []
  | d :: l => match keyOf d, keysOf l with
    | some k, some ks => some (k :: ks)
    | _, _ => none
def tupKey : D → Option (List Key)
  | .tup l => keysOf l
  | _ => none
def valD {κ : Type} [DecidableEq κ] (f : D → Option κ) : List (D × D) → κ → Option D
  | [], _ => none
  | (kd, d) :: r, k => if f kd = some k then some d else valD f r k
theorem keyOf_kD (k : Key) : keyOf (kD k) = some k := by cases k <;> rfl
theorem keysOf_map : ∀ (ks : List Key), keysOf (ks.map kD) = some ks
  | [] => rfl
  | k :: ks => by rw [List.map_cons, keysOf, keyOf_kD, keysOf_map ks]
theorem tupKey_kT (k : List Key) : tupKey (kT k) = some k := keysOf_map k
theorem keys_all : ∀ {ds : List D} {ks : List Key}, keysOf ds = some ks → ds.all kyD = true
  | [], _, _ => rfl
  | d :: ds, ks, e => by
    simp only [keysOf] at e
    cases d with
    | int i =>
      simp only [keyOf] at e
      cases q : keysOf ds with
      | none => rw [q] at e; cases e
      | some l => rw [List.all_cons, keys_all q]; rfl
    | str i =>
      simp only [keyOf] at e
      cases q : keysOf ds with
      | none => rw [q] at e; cases e
      | some l => rw [List.all_cons, keys_all q]; rfl
    | _ => simp [keyOf] at e
theorem fz_key {H : Hp} {v : V} {d : D} {k : Key} (h : Fz K H v d) (e : keyOf d = some k) : v = kV k := by
  cases h <;> first | (cases e; rfl) | cases e
theorem fz_keys {H : Hp} : ∀ {vs : List V} {ds : List D} {ks : List Key}, FzL K H vs ds → keysOf ds = some ks → vs = ks.map kV
  | _, _, _, .nil, e => by simp only [keysOf, Option.some.injEq] at e; subst e; rfl
  | _, _, _, .cons h t, e => by
    simp only [keysOf] at e
    split at e
    · rename_i k ks e1 e2
      cases e
      rw [fz_key h e1, fz_keys t e2]; rfl
    · cases e
theorem fzk_val {H : Hp} {k : Key} : ∀ {kvs : List (Key × V)} {ds : List (D × D)}, FzK K H kvs ds → (∀ d, valD keyOf ds k = some d → ∃ v, valV kvs k = some v ∧ Fz K H v d) ∧ (valD keyOf ds k = none → valV kvs k = none)
  | _, _, .nil => ⟨fun v e => by simp [valD] at e, fun _ => rfl⟩
  | _, _, @FzK.cons _ _ k' v' d' vs ds h t => by
    have ih := fzk_val (k := k) t
    unfold valD
    rw [keyOf_kD]
    by_cases q : k' = k
    · subst q
      rw [if_pos rfl, valV_pos (p := (k', v')) rfl]
      exact ⟨fun d e => ⟨v', rfl, by cases e; exact h⟩, fun e => by cases e⟩
    · rw [if_neg (by simpa using q), valV_neg (p := (k', v')) q]
      exact ih
theorem fzt_val {H : Hp} {k : List Key} : ∀ {kvs : List (List Key × V)} {ds : List (D × D)}, FzT K H kvs ds → (∀ d, valD tupKey ds k = some d → ∃ v, valV kvs k = some v ∧ Fz K H v d) ∧ (valD tupKey ds k = none → valV kvs k = none)
  | _, _, .nil => ⟨fun v e => by simp [valD] at e, fun _ => rfl⟩
  | _, _, @FzT.cons _ _ k' v' d' vs ds h t => by
    have ih := fzt_val (k := k) t
    unfold valD
    rw [tupKey_kT]
    by_cases q : k' = k
    · subst q
      rw [if_pos rfl, valV_pos (p := (k', v')) rfl]
      exact ⟨fun d e => ⟨v', rfl, by cases e; exact h⟩, fun e => by cases e⟩
    · rw [if_neg (by simpa using q), valV_neg (p := (k', v')) q]
      exact ih
def dGet : D → D → Option (Option D)
  | .dic kvs, y => (keyOf y).map (valD keyOf kvs)
  | .dit kvs, y => (tupKey y).map (valD tupKey kvs)
  | _, _ => none
end
end Vs

namespace Vs
open PySem L2
def tree (o : OR) (e : Env) : Option (D × M) := match o with
  | .tmp d m => some (d, m)
  | .slot i => match e[i]? with
    | some (some (.val d m)) => some (d, m)
    | _ => none
def isFz : M → Bool
  | .fz => true
  | _ => false
def kid : M → Nat → M
  | .fz, _ => .fz
  | .nd _ ms, j => ms.getD j .fz
def kidsFz : M → Bool
  | .fz => true
  | .nd _ [] => true
  | _ => false
section
variable {K : PySem.W.Frag} {T : CxA} {W : WX} {σ : St} {G H G1 H1 G2 H2 G' H' : Hp} {U U1 U2 U' u u' R : List Addr} {env : Env}
theorem tree_ok {v : V} {o : OR} {d : D} {m : M} (w : Wf G H (u ++ U)) (h : ROr K σ G H v o u) (r : Rl K T G H σ env U) (e : tree o env = some (d, m)) : ∃ ut, RelD K G H v d m ut := by
  cases o with
  | tmp d' m' =>
    simp only [tree, Option.some.injEq, Prod.mk.injEq] at e
    obtain ⟨rfl, rfl⟩ := e
    exact ⟨u, h⟩
  | slot i =>
    simp only [tree] at e
    split at e
    · rename_i d' m' he
      cases e
      obtain ⟨hv, rfl⟩ := h
      obtain ⟨v', u', U', h1, h2, _, _⟩ := r.takeV he
      have : v' = v := by
        have z := h1.symm.trans hv
        cases z; rfl
      subst this
      exact ⟨u', h2⟩
    · cases e
theorem tree_rd {o : OR} {d : D} {m : M} (e : tree o env = some (d, m)) : rd o env = some d := by
  cases o with
  | tmp d' m' => simp only [tree, Option.some.injEq, Prod.mk.injEq] at e; obtain ⟨rfl, rfl⟩ := e; rfl
  | slot i =>
    simp only [tree] at e
    simp only [rd]
    split at e
    · rename_i he; cases e; first | rw [he] | rfl
    · cases e
theorem isFz_eq {m : M} (h : isFz m = true) : m = .fz := by cases m <;> first | rfl | cases h
theorem RelL.child : ∀ {vs : List V} {ds : List D} {ms : List M} {u : List Addr} {j : Nat} {d : D}, RelL K G H vs ds ms u → ds[j]? = some d → ms.getD j .fz = .fz → ∃ v, vs[j]? = some v ∧ Fz K G v d
  | _, _, _, _, j, d, .fz h, e, _ => h.get e
  | _, _, _, _, 0, d, .cons h t, e, k => by
    simp at e k
    subst e k
    cases h with
    | fz f => exact ⟨_, rfl, f⟩
  | _, _, _, _, j + 1, d, .cons h t, e, k => by
    obtain ⟨v, h1, h2⟩ := RelL.child (j := j) t (by simpa using e) (by simpa using k)
    exact ⟨v, by simpa using h1, h2⟩
theorem RelL.length : ∀ {vs : List V} {ds : List D} {ms : List M} {u : List Addr}, RelL K G H vs ds ms u → vs.length = ds.length
  | _, _, _, _, .fz h => h.length
  | _, _, _, _, .cons _ t => congrArg (· + 1) (RelL.length t)
def ixD (d : D) (m : M) (i : Int) : Option (D × Bool) := match d with
  | .lst xs => (ixN xs.length i).bind fun j => (xs[j]?).map fun z => (z, isFz (kid m j))
  | .tup xs => (ixN xs.length i).bind fun j => (xs[j]?).map fun z => (z, isFz (kid m j))
  | .scr xs => (ixN xs.length i).bind fun j => (xs[j]?).map fun z => (z, true)
  | .htp xs => (ixN xs.length i).bind fun j => (xs[j]?).map fun z => (z, true)
  | .str x => if x.length ≤ lim then (L2.atI x.cps.toList i).map fun c => (.str ⟨#[c]⟩, true) else none
  | _ => none
def fIxS : List OR → Env → Rs OR := fun os e => match os with
  | [o1, o2] => (match tree o1 e, rd o2 e with
    | some (d, m), some (.int i) => (match ixD d m i with
      | some (z, true) => .ok (.tmp z .fz) e
      | some (z, false) => (match cut o1 e with
        | some (_, e1) => .ok (.tmp z .fz) e1
        | none => .no)
      | none => .no)
    | _, _ => .no)
  | _ => .no
theorem ras_two {σ : St} {vs : List V} {o1 o2 : OR} (h : RAs K σ G H vs [o1, o2] u) : ∃ x y u1 u2, vs = [x, y] ∧ u = u1 ++ u2 ∧ ROr K σ G H x o1 u1 ∧ ROr K σ G H y o2 u2 := by
  cases h with
  | @cons v _ u1 _ _ u2 h t =>
    cases t with
    | @cons v2 _ u3 _ _ u4 h2 t2 =>
      cases t2
      exact ⟨v, v2, u1, u3, rfl, by simp, h, h2⟩
theorem ras_one {σ : St} {vs : List V} {o1 : OR} (h : RAs K σ G H vs [o1] u) : ∃ x, vs = [x] ∧ ROr K σ G H x o1 u := by
  cases h with
  | @cons v _ u1 _ _ u2 h t => cases t; exact ⟨v, rfl, by simpa using h⟩
theorem atI_of {xs : List D} {vs : List V} {i : Int} {j : Nat} {x : V} (hl : vs.length = xs.length) (h : ixN xs.length i = some j) (hx : vs[j]? = some x) : L2.atI vs i = some x := by
  unfold L2.atI
  rw [hl, h]
  exact hx
theorem ix_fz {v : V} {d z : D} {m : M} {i : Int} {b : Bool} {Q : VK} (s : Same G H) (h : Fz K G v d) (e : ixD d m i = some (z, b)) (q : ∀ x, Fz K G x z → Q x H) : rIxU K v (.int i) H Q := by
  cases h with
  | @lst a vs ds hl f =>
    simp only [ixD, Option.bind_eq_some_iff, Option.map_eq_some_iff] at e
    obtain ⟨j, hj, z', hz, e⟩ := e
    cases e
    obtain ⟨x, hx, fx⟩ := f.get hz
    exact .inl ⟨a, vs, i, x, rfl, rfl, SqL.of (s _ _ hl), atI_of f.length hj hx, q x fx⟩
  | @tup a vs ds hl f =>
    simp only [ixD, Option.bind_eq_some_iff, Option.map_eq_some_iff] at e
    obtain ⟨j, hj, z', hz, e⟩ := e
    cases e
    obtain ⟨x, hx, fx⟩ := f.get hz
    exact .inr (.inl ⟨a, vs, i, x, rfl, rfl, hl.sq s, atI_of f.length hj hx, q x fx⟩)
  | @htp a vs ds hl f =>
    simp only [ixD, Option.bind_eq_some_iff, Option.map_eq_some_iff] at e
    obtain ⟨j, hj, z', hz, e⟩ := e
    cases e
    obtain ⟨x, hx, fx⟩ := f.get hz
    exact .inr (.inl ⟨a, vs, i, x, rfl, rfl, hl.sq s, atI_of f.length hj hx, q x fx⟩)
  | @scr a vs ds hl f =>
    simp only [ixD, Option.bind_eq_some_iff, Option.map_eq_some_iff] at e
    obtain ⟨j, hj, z', hz, e⟩ := e
    cases e
    obtain ⟨x, hx, fx⟩ := f.get hz
    exact .inl ⟨a, vs, i, x, rfl, rfl, (Le.of s).sqL hl, atI_of f.length hj hx, q x fx⟩
  | str x =>
    simp only [ixD] at e
    split at e
    · rename_i hl
      rw [Option.map_eq_some_iff] at e
      obtain ⟨c, hc, e⟩ := e
      cases e
      exact .inr (.inr ⟨x, i, c, rfl, rfl, Nat.le_trans hl lim_le, hc, q _ (.str _)⟩)
    · cases e
  | _ => simp [ixD] at e
theorem ix_rel {v : V} {d z : D} {m : M} {i : Int} {ut : List Addr} {Q : VK} (s : Same G H) (h : RelD K G H v d m ut) (e : ixD d m i = some (z, true)) (q : ∀ x, Fz K G x z → Q x H) : rIxU K v (.int i) H Q := by
  cases h with
  | fz f => exact ix_fz s f e q
  | @lst a vs ds ms u hl f =>
    simp only [ixD, Option.bind_eq_some_iff, Option.map_eq_some_iff, Prod.mk.injEq] at e
    obtain ⟨j, hj, z', hz, rfl, hk⟩ := e
    obtain ⟨x, hx, fx⟩ := f.child hz (isFz_eq hk)
    exact .inl ⟨a, vs, i, x, rfl, rfl, SqL.of hl, atI_of f.length hj hx, q x fx⟩
  | @tup a vs ds ms u hl f =>
    simp only [ixD, Option.bind_eq_some_iff, Option.map_eq_some_iff, Prod.mk.injEq] at e
    obtain ⟨j, hj, z', hz, rfl, hk⟩ := e
    obtain ⟨x, hx, fx⟩ := f.child hz (isFz_eq hk)
    exact .inr (.inl ⟨a, vs, i, x, rfl, rfl, hl.sq s, atI_of f.length hj hx, q x fx⟩)
  | dic => simp [ixD] at e
  | dit => simp [ixD] at e
  | ins => simp [ixD] at e
theorem cbs_ixS : CbS K T W (l2 (rIxU K)) fIxS := fun σ G H vs os u env U Q w a rl p => by
  unfold fIxS at p
  split at p
  · rename_i o1 o2
    obtain ⟨x, y, u1, u2, rfl, rfl, h1, h2⟩ := ras_two a
    split at p
    · rename_i d m i e1 e2
      have fy := rd_ok w.gh h2 rl e2
      cases fy
      show rIxU K x (.int i) H Q
      split at p
      · rename_i z ez
        have w1 : Wf G H (u1 ++ (u2 ++ U)) := by rw [← List.append_assoc]; exact w
        have w3 : Wf G H ((u1 ++ U) ++ u2) := w.perm (by rw [List.append_assoc, List.append_assoc]; exact List.Perm.append_left _ List.perm_append_comm)
        obtain ⟨ut, ht⟩ := tree_ok w3.left h1 rl e1
        exact ix_rel w.gh ht ez fun x fx => p x G H [] U (Mv.forget w) (.fz fx) rl
      · rename_i z ez
        split at p
        · rename_i d' e3 hc
          have w3 : Wf G H ((u1 ++ U) ++ u2) := w.perm (by rw [List.append_assoc, List.append_assoc]; exact List.Perm.append_left _ List.perm_append_comm)
          obtain ⟨G1, U1, m1, f1, r1⟩ := cut_ok w3.left h1 rl hc
          obtain ⟨m2, _⟩ := m1.frame w3
          have m3 : Mv G H ((u1 ++ u2) ++ U) G1 H U1 := ((m2.permR List.perm_append_comm).trans (Mv.forget (m2.wf.perm List.perm_append_comm))).permL (pm1 u1 U u2)
          have ed : d' = d := by
            have k := tree_rd e1
            cases o1 with
            | tmp a b => simp only [cut, Option.some.injEq, Prod.mk.injEq] at hc; simp only [rd, Option.some.injEq] at k; rw [← hc.1, k]
            | slot j =>
              simp only [cut] at hc
              simp only [rd] at k
              split at hc
              · rename_i he; rw [he] at k; simp only [Option.some.injEq, Prod.mk.injEq] at hc k; rw [← hc.1, k]
              · cases hc
          subst ed
          exact ix_fz m1.wf.gh f1 ez fun x fx => p x G1 H [] U1 m3 (.fz fx) r1
        · exact p.elim
      · exact p.elim
    · exact p.elim
  · exact p.elim
def dictAt (os : List OR) (e : Env) : Bool := match os with
  | o :: _ => (match rd o e with
    | some (.dic _) => true
    | some (.dit _) => true
    | _ => false)
  | [] => false
def fIxD : List OR → Env → Rs OR := fun os e => match os with
  | [o1, o2] => (match tree o1 e, rd o2 e with
    | some (d, m), some y => (match dGet d y with
      | some (some z) => (match kidsFz m with
        | true => .ok (.tmp z .fz) e
        | false => .no)
      | _ => .no)
    | _, _ => .no)
  | _ => .no
theorem RelK.fzk : ∀ {vs : List (Key × V)} {ds : List (D × D)} {u : List Addr}, RelK K G H vs ds [] u → FzK K G vs ds
  | _, _, _, .fz h => h
theorem RelT.fzt : ∀ {vs : List (List Key × V)} {ds : List (D × D)} {u : List Addr}, RelT K G H vs ds [] u → FzT K G vs ds
  | _, _, _, .fz h => h
theorem dget_rel {v y : V} {d e : D} {m : M} {ut : List Addr} {o : Option D} (s : Same G H) (h : RelD K G H v d m ut) (hm : kidsFz m = true) (hy : Fz K H y e) (g : dGet d e = some o) :
    ∃ a r, v = .ref a ∧ DGet H a y r ∧ (∀ z, o = some z → ∃ w, r = some w ∧ Fz K G w z) ∧ (o = none → r = none) := by
  cases h with
  | fz f =>
    cases f with
    | @dic a kvs ds hd f =>
      simp only [dGet, Option.map_eq_some_iff] at g
      obtain ⟨k, hk, rfl⟩ := g
      have hv := fz_key hy hk
      subst hv
      exact ⟨a, valV kvs k, rfl, .inl ⟨kvs, k, (Le.of s).rd hd, rfl, rfl⟩, fun z e => (fzk_val f).1 z e, fun e => (fzk_val f).2 e⟩
    | @dit a kvs ds hd f =>
      simp only [dGet, Option.map_eq_some_iff] at g
      obtain ⟨k, hk, rfl⟩ := g
      cases hy with
      | @tup b vs es hb fb =>
        have hv := fz_keys fb hk
        subst hv
        exact ⟨a, valV kvs k, rfl, .inr ⟨kvs, k, b, (Le.of s).rdT hd, rfl, hb.key (keys_all hk), rfl⟩, fun z e => (fzt_val f).1 z e, fun e => (fzt_val f).2 e⟩
      | _ => simp [tupKey] at hk
    | _ => simp [dGet] at g
  | @dic a kvs ds ms u hd f =>
    obtain rfl : ms = [] := by cases ms <;> first | rfl | cases hm
    have f := f.fzk
    simp only [dGet, Option.map_eq_some_iff] at g
    obtain ⟨k, hk, rfl⟩ := g
    have hv := fz_key hy hk
    subst hv
    exact ⟨a, valV kvs k, rfl, .inl ⟨kvs, k, .inl hd, rfl, rfl⟩, fun z e => (fzk_val f).1 z e, fun e => (fzk_val f).2 e⟩
  | @dit a kvs ds ms u hd f =>
    obtain rfl : ms = [] := by cases ms <;> first | rfl | cases hm
    have f := f.fzt
    simp only [dGet, Option.map_eq_some_iff] at g
    obtain ⟨k, hk, rfl⟩ := g
    cases hy with
    | @tup b vs es hb fb =>
      have hv := fz_keys fb hk
      subst hv
      exact ⟨a, valV kvs k, rfl, .inr ⟨kvs, k, b, .inl hd, rfl, hb.key (keys_all hk), rfl⟩, fun z e => (fzt_val f).1 z e, fun e => (fzt_val f).2 e⟩
    | _ => simp [tupKey] at hk
  | lst => simp [dGet] at g
  | tup => simp [dGet] at g
  | ins => simp [dGet] at g
def rDg : R2 := fun x y H Q => ∃ a v, x = .ref a ∧ DGet H a y (some v) ∧ Q v H
theorem cbs_ixD : CbS K T W (l2 rDg) fIxD := fun σ G H vs os u env U Q w a rl p => by
  unfold fIxD at p
  split at p
  · rename_i o1 o2
    obtain ⟨x, y, u1, u2, rfl, rfl, h1, h2⟩ := ras_two a
    split at p
    · rename_i d m y' e1 e2
      have fy := rd_ok w.gh h2 rl e2
      split at p
      · rename_i z ez
        split at p
        · rename_i hk
          have w3 : Wf G H ((u1 ++ U) ++ u2) := w.perm (by rw [List.append_assoc, List.append_assoc]; exact List.Perm.append_left _ List.perm_append_comm)
          obtain ⟨ut, ht⟩ := tree_ok w3.left h1 rl e1
          obtain ⟨b, r, rfl, dg, k1, _⟩ := dget_rel w.gh ht hk fy ez
          obtain ⟨v, rfl, fv⟩ := k1 z rfl
          exact ⟨b, v, rfl, dg, p v G H [] U (Mv.forget w) (.fz fv) rl⟩
        · exact p.elim
      · exact p.elim
    · exact p.elim
  · exact p.elim
def fIx : List OR → Env → Rs OR := fun os e => if dictAt os e then fIxD os e else fIxS os e
theorem snd_ix {ta tb : TE} {a b : SE} (ha : Snd K T (rE K) W ta a) (hb : Snd K T (rE K) W tb b) : Snd K T (rE K) W (tIxU K ta tb) (sOp2 fIx a b) := fun σ G H env U w r Q p => by
  have hcase : sOp2 fIx a b env = sOp2 fIxD a b env ∨ sOp2 fIx a b env = sOp2 fIxS a b env := by
    unfold sOp2 sCB
    cases q : sCons a (sCons b sNil) env with
    | no => exact .inl rfl
    | ex c w e => exact .inl rfl
    | ok os e =>
      show fIx os e = fIxD os e ∨ fIx os e = fIxS os e
      unfold fIx
      split
      · exact .inl rfl
      · exact .inr rfl
  rcases hcase with h | h
  · rw [h] at p
    exact .inr (snd_op2 cbs_ixD ha hb σ G H env U w r Q p)
  · rw [h] at p
    exact .inl (snd_op2 cbs_ixS ha hb σ G H env U w r Q p)
end
end Vs

namespace Vs
open PySem L2
abbrev ST := Env → Rs Bool
section
variable {K : PySem.W.Frag} {T : CxA} {W : WX} {σ : St} {G H G1 H1 G2 H2 G' H' : Hp} {U U1 U2 U' u u' R : List Addr} {env : Env}
theorem snd_look {α β : Type} {rel : RelB α β} {te : TE} {s : SE} {f : OR → Env → Rs α} {t : V → Hp → (β → Hp → Prop) → Prop} (h : Snd K T (rE K) W te s)
    (k : ∀ σ G H x o u env U Q, Wf G H (u ++ U) → ROr K σ G H x o u → Rl K T G H σ env U → Post K T rel W σ G H (u ++ U) (f o env) Q → t x H Q) : Snd K T rel W (fun σ H Q => te σ H fun x H1 => t x H1 Q) (fun e => (s e).bind f) := fun σ G H env U w rl Q p => by
  refine h σ G H env U w rl _ (post_bind (u := []) (Mv.refl w) p fun x o e1 G1 H1 u1 U1 e m1 _ _ h1 r1 => ?_)
  rw [List.nil_append] at m1
  have p' : Post K T rel W σ G H U (f o e1) Q := by
    have z : Post K T rel W σ G H U ((s env).bind f) Q := p
    rw [e] at z; exact z
  refine k σ G1 H1 x o u1 e1 U1 Q m1.wf h1 r1 ?_
  cases q : f o e1 with
  | no => rw [q] at p'; exact p'
  | ok a e2 => rw [q] at p'; exact fun b G2 H2 u2 U2 m2 h2 r2 => p' b G2 H2 u2 U2 (m1.trans m2) h2 r2
  | ex c w' e2 => rw [q] at p'; exact fun dx v G2 H2 U2 m2 h2 h3 r2 => p' dx v G2 H2 U2 (m1.trans m2) h2 h3 r2
def asB : OR → Env → Rs Bool := fun o e => match rd o e with
  | some (.bl b) => .ok b e
  | _ => .no
def sTest (s : SE) : ST := fun e => (s e).bind asB
theorem post_t {b : Bool} {Q : Bool → Hp → Prop} (w : Wf G H (u ++ U)) (rl : Rl K T G H σ env U) (p : Post K T rT W σ G H (u ++ U) (.ok b env) Q) : Q b H := p b G H [] U (Mv.forget w) ⟨rfl, rfl⟩ rl
theorem snd_test {te : TE} {s : SE} (h : Snd K T (rE K) W te s) : Snd K T rT W (tTest te) (sTest s) := snd_look (t := fun x H Q => ∃ k, x = .bl k ∧ Q k H) h fun σ G H x o u env U Q w r rl p => by
  unfold asB at p
  split at p
  · rename_i b e
    have f := rd_ok w.gh r rl e
    cases f
    exact ⟨b, rfl, post_t w rl p⟩
  · exact p.elim
def dTru : D → Option Bool
  | .non => some false
  | .bl b => some b
  | .int i => some (i != 0)
  | .str x => if x.length ≤ lim then some ((x.length : Int) != 0) else none
  | .lst l => some !l.isEmpty
  | .tup l => some !l.isEmpty
  | .scr l => some !l.isEmpty
  | _ => none
def asT : OR → Env → Rs Bool := fun o e => match rd o e with
  | some d => (match dTru d with
    | some b => .ok b e
    | none => .no)
  | none => .no
def sTru (s : SE) : ST := fun e => (s e).bind asT
theorem isEmpty_fz : ∀ {vs : List V} {ds : List D}, FzL K G vs ds → vs.isEmpty = ds.isEmpty
  | _, _, .nil => rfl
  | _, _, .cons _ _ => rfl
theorem snd_tru {te : TE} {s : SE} (h : Snd K T (rE K) W te s) : Snd K T rT W (fun σ H Q => te σ H fun x H' => ∃ k, TruV K x H' k ∧ Q k H') (sTru s) := snd_look (t := fun x H Q => ∃ k, TruV K x H k ∧ Q k H) h fun σ G H x o u env U Q w r rl p => by
  unfold asT at p
  split at p
  · rename_i d e
    split at p
    · rename_i b hb
      have f := rd_ok w.gh r rl e
      refine ⟨b, ?_, post_t w rl p⟩
      cases f with
      | non => cases hb; rfl
      | bl => cases hb; rfl
      | int => cases hb; rfl
      | str x =>
        simp only [dTru] at hb
        split at hb
        · rename_i hl; cases hb; exact ⟨Nat.le_trans hl lim_le, rfl⟩
        · cases hb
      | lst h a => simp only [dTru, Option.some.injEq] at hb; subst hb; exact .inl ⟨_, SqL.of h, by rw [isEmpty_fz a]⟩
      | tup h a => simp only [dTru, Option.some.injEq] at hb; subst hb; exact .inr (.inl ⟨_, h.sq0, by rw [isEmpty_fz a]⟩)
      | scr h a => simp only [dTru, Option.some.injEq] at hb; subst hb; exact .inl ⟨_, h, by rw [isEmpty_fz a]⟩
      | _ => simp [dTru] at hb
    · exact p.elim
  · exact p.elim
def sNotT (s : ST) : ST := fun e => (s e).bind fun b e1 => .ok (!b) e1
def sAndT (s t : ST) : ST := fun e => (s e).bind fun b e1 => if b then t e1 else .ok false e1
def sOrT (s t : ST) : ST := fun e => (s e).bind fun b e1 => if b then .ok true e1 else t e1
def sYes : ST := fun e => .ok true e
theorem snd_yes : Snd K T rT W tYes sYes := fun σ G H env U w r Q p => p true G H [] U (Mv.refl w) ⟨rfl, rfl⟩ r
theorem snd_then {α β : Type} {rel : RelB α β} {tt : TT} {s : ST} {k : Bool → Env → Rs α} {t : Bool → St → Hp → (β → Hp → Prop) → Prop} (h : Snd K T rT W tt s) (hk : ∀ b, Snd K T rel W (t b) (k b)) :
    Snd K T rel W (fun σ H Q => tt σ H fun b H1 => t b σ H1 Q) (fun e => (s e).bind k) := fun σ G H env U w rl Q p => by
  refine h σ G H env U w rl _ (post_bind (u := []) (Mv.refl w) p fun x o e1 G1 H1 u1 U1 e m1 _ _ h1 r1 => ?_)
  rw [List.nil_append] at m1
  obtain ⟨rfl, rfl⟩ := h1
  rw [List.nil_append] at m1
  have p' : Post K T rel W σ G H U (k x e1) Q := by
    have z : Post K T rel W σ G H U ((s env).bind k) Q := p
    rw [e] at z; exact z
  refine hk x σ G1 H1 e1 U1 m1.wf r1 Q ?_
  cases q : k x e1 with
  | no => rw [q] at p'; exact p'
  | ok a e2 => rw [q] at p'; exact fun b G2 H2 u2 U2 m2 h2 r2 => p' b G2 H2 u2 U2 (m1.trans m2) h2 r2
  | ex c w' e2 => rw [q] at p'; exact fun dx v G2 H2 U2 m2 h2 h3 r2 => p' dx v G2 H2 U2 (m1.trans m2) h2 h3 r2
theorem snd_retT {b : Bool} : Snd K T rT W (fun _ H Q => Q b H) (fun e => .ok b e) := fun σ G H env U w r Q p => p b G H [] U (Mv.refl w) ⟨rfl, rfl⟩ r
theorem snd_notT {t : TT} {s : ST} (h : Snd K T rT W t s) : Snd K T rT W (tNot t) (sNotT s) := snd_then (t := fun b _ H Q => Q (!b) H) h fun b => snd_retT
theorem snd_orT {t t' : TT} {s s' : ST} (h : Snd K T rT W t s) (h' : Snd K T rT W t' s') : Snd K T rT W (tOr t t') (sOrT s s') :=
  snd_then (t := fun b σ H Q => if b = true then Q true H else t' σ H Q) h fun b => by
    cases b with
    | true => simpa using snd_retT
    | false => simpa using h'
def sIf (c : ST) (a b : SE) : SE := fun e => (c e).bind fun k e1 => if k then a e1 else b e1
theorem snd_if {t : TT} {s : ST} {ta tb : TE} {a b : SE} (h : Snd K T rT W t s) (ha : Snd K T (rE K) W ta a) (hb : Snd K T (rE K) W tb b) : Snd K T (rE K) W (tIf t ta tb) (sIf s a b) :=
  snd_then (t := fun b σ H Q => if b = true then ta σ H Q else tb σ H Q) h fun b => by
    cases b with
    | true => simpa using ha
    | false => simpa using hb
def sAndV (s t : SE) : SE := fun e => (sTest s e).bind fun b e1 => if b then t e1 else .ok (.tmp (.bl false) .fz) e1
def sOrV (s t : SE) : SE := fun e => (sTest s e).bind fun b e1 => if b then .ok (.tmp (.bl true) .fz) e1 else t e1
def sNotV (s : SE) : SE := fun e => (sTest s e).bind fun b e1 => .ok (.tmp (.bl !b) .fz) e1
theorem snd_retB {b : Bool} : Snd K T (rE K) W (fun _ H Q => Q (.bl b) H) (fun e => .ok (.tmp (.bl b) .fz) e) := snd_bl
theorem snd_andV {ta tb : TE} {a b : SE} (ha : Snd K T (rE K) W ta a) (hb : Snd K T (rE K) W tb b) : Snd K T (rE K) W (tAndV ta tb) (sAndV a b) :=
  show Snd K T (rE K) W (fun σ H Q => tTest ta σ H fun b H1 => if b = true then tb σ H1 Q else Q (.bl false) H1) _ from
  snd_then (t := fun b σ H Q => if b = true then tb σ H Q else Q (.bl false) H) (snd_test ha) fun c => by
    cases c with
    | true => simpa using hb
    | false => simpa using snd_retB (b := false)
theorem snd_notV {ta : TE} {a : SE} (ha : Snd K T (rE K) W ta a) : Snd K T (rE K) W (tNotV ta) (sNotV a) :=
  show Snd K T (rE K) W (fun σ H Q => tTest ta σ H fun b H1 => Q (.bl !b) H1) _ from snd_then (rel := rE K) (t := fun b _ H (Q : VK) => Q (V.bl !b) H) (snd_test ha) fun c => snd_retB
def sChain (g g' : List D → Option D) (a b c : SE) : SE := fun e => (a e).bind fun x e1 => (b e1).bind fun y e2 => (fRd g [x, y] e2).bind fun z e3 => (asB z e3).bind fun k e4 => if k then (c e4).bind fun w e5 => fRd g' [y, w] e5 else .ok (.tmp (.bl false) .fz) e4
end
end Vs

namespace Vs
open PySem L2
section
variable {K : PySem.W.Frag} {T : CxA} {W : WX} {σ : St} {G H G1 H1 G2 H2 G' H' : Hp} {U U1 U2 U' u u' R : List Addr} {env : Env}
def fieldIx (f : Str) : List (Str × D) → Option (Nat × D)
  | [] => none
  | (g, d) :: r => if f = g then some (0, d) else (fieldIx f r).map fun p => (p.1 + 1, p.2)
theorem FzF.field {f : Str} : ∀ {fs : List (Str × V)} {ds : List (Str × D)} {j : Nat} {z : D}, FzF K G fs ds → fieldIx f ds = some (j, z) → ∃ v, fs.lookup f = some v ∧ Fz K G v z
  | _, _, _, _, .nil, e => by simp [fieldIx] at e
  | _, _, j, z, @FzF.cons _ _ g v d fs ds h t, e => by
    unfold fieldIx at e
    by_cases q : f = g
    · subst q
      rw [if_pos rfl] at e
      cases e
      exact ⟨v, by simp, h⟩
    · rw [if_neg q, Option.map_eq_some_iff] at e
      obtain ⟨p, e, z'⟩ := e
      cases z'
      obtain ⟨v', h1, h2⟩ := FzF.field t e
      exact ⟨v', by rw [List.lookup_cons, show (f == g) = false from beq_eq_false_iff_ne.mpr q]; exact h1, h2⟩
theorem RelF.field {f : Str} : ∀ {fs : List (Str × V)} {ds : List (Str × D)} {ms : List M} {u : List Addr} {j : Nat} {z : D}, RelF K G H fs ds ms u → fieldIx f ds = some (j, z) →
    ∃ v u1 u2, fs.lookup f = some v ∧ RelD K G H v z (ms.getD j .fz) u1 ∧ (u1 ++ u2).Perm u ∧ ∀ G', Le G G' → Fz K G' v z → RelF K G' H fs ds (ms.set j .fz) u2
  | _, _, _, _, j, z, .fz h, e => by
    obtain ⟨v, h1, h2⟩ := h.field e
    exact ⟨v, [], [], h1, by simpa using RelD.fz h2, List.Perm.refl _, fun G' s _ => by simpa using RelF.fz (h.mono K s)⟩
  | _, _, _, _, j, z, @RelF.cons _ _ _ g v d m u1 fs ds ms u2 h t, e => by
    unfold fieldIx at e
    by_cases q : f = g
    · subst q
      rw [if_pos rfl] at e
      cases e
      exact ⟨v, u1, u2, by simp, by simpa using h, List.Perm.refl _, fun G' s fz => by simpa using RelF.cons (u := []) (.fz fz) (t.mono s fun _ _ => rfl)⟩
    · rw [if_neg q, Option.map_eq_some_iff] at e
      obtain ⟨p, e, z'⟩ := e
      cases z'
      obtain ⟨v', a1, a2, h1, h2, h3, h4⟩ := RelF.field t e
      refine ⟨v', a1, u1 ++ a2, by rw [List.lookup_cons, show (f == g) = false from beq_eq_false_iff_ne.mpr q]; exact h1, by simpa using h2, ?_, fun G' s fz => ?_⟩
      · exact (List.perm_append_comm_assoc a1 u1 a2).trans (h3.append_left u1)
      · simpa using RelF.cons (h.mono s fun _ _ => rfl) (h4 G' s fz)
def fAttr (cs : List Str) (f : Str) (o : OR) (e : Env) : Rs OR := match tree o e with
  | some (.ins c fs, m) => (match decide (c ∈ cs), fieldIx f fs with
    | true, some (j, z) => (match kid m j with
      | .fz => .ok (.tmp z .fz) e
      | _ => (match o, m with
        | .slot i, .nd w ms => .ok (.tmp z .fz) (e.set i (some (.val (.ins c fs) (.nd w (ms.set j .fz)))))
        | _, _ => (match cut o e with
          | some (_, e1) => .ok (.tmp z .fz) e1
          | none => .no)))
    | _, _ => .no)
  | _ => .no
def sAttr (cs : List Str) (f : Str) (s : SE) : SE := fun e => (s e).bind (fAttr cs f)
theorem cut_rd {o : OR} {d d' : D} {e1 : Env} (k : rd o env = some d) (hc : cut o env = some (d', e1)) : d' = d := by
  cases o with
  | tmp a b => simp only [cut, Option.some.injEq, Prod.mk.injEq] at hc; simp only [rd, Option.some.injEq] at k; rw [← hc.1, k]
  | slot j =>
    simp only [cut] at hc
    simp only [rd] at k
    split at hc
    · rename_i he; rw [he] at k; simp only [Option.some.injEq, Prod.mk.injEq] at hc k; rw [← hc.1, k]
    · cases hc
theorem snd_attr {te : TE} {s : SE} {cs : List Str} {f : Str} (hc : ∀ c ∈ cs, Cls K (He.ga K c) ∧ NoAttr K (He.ga K c) f) (h : Snd K T (rE K) W te s) : Snd K T (rE K) W (tFld K te f) (sAttr cs f s) :=
  snd_look (t := fun x H Q => ∃ a C dx fs v, x = .ref a ∧ H a = some (.ins C dx fs) ∧ Cls K C ∧ NoAttr K C f ∧ fs.lookup f = some v ∧ Q v H) h fun σ G H x o u env U Q w r rl p => by
  unfold fAttr at p
  split at p
  · rename_i c fs m et
    split at p
    · rename_i j z hm hf
      obtain ⟨c1, c2⟩ := hc c (of_decide_eq_true hm)
      obtain ⟨ut, ht⟩ := tree_ok w r rl et
      split at p
      · rename_i hk
        cases ht with
        | fz ff =>
          cases ff with
          | @ins a dx _ vs _ ha ff =>
            obtain ⟨v, h1, h2⟩ := ff.field hf
            exact ⟨a, _, dx, vs, v, rfl, w.gh _ _ ha, c1, c2, h1, p v G H [] U (Mv.forget w) (.fz h2) rl⟩
        | @ins a dx _ vs _ ms u1 ha hd ff =>
          obtain ⟨v, a1, a2, h1, h2, _, _⟩ := ff.field hf
          rw [show ms.getD j .fz = .fz from hk] at h2
          cases h2 with
          | fz h2 => exact ⟨a, _, dx, vs, v, rfl, ha, c1, c2, h1, p v G H [] U (Mv.forget w) (.fz h2) rl⟩
      · rename_i hk
        split at p
        · rename_i i w' ms
          obtain ⟨hv, rfl⟩ := r
          have he : env[i]? = some (some (.val (.ins c fs) (.nd w' ms))) := by
            simp only [tree] at et
            split at et
            · rename_i he; cases et; exact he
            · cases et
          obtain ⟨x', ux, Ux, k1, k2, k3, k4⟩ := rl.takeV he
          have : x' = x := by
            have z := k1.symm.trans hv
            cases z; rfl
          subst this
          cases k2 with
          | @ins a dx _ vs _ _ u1 ha hd ff =>
            obtain ⟨v, a1, a2, h1, h2, h3, h4⟩ := ff.field hf
            have w0 : Wf G H U := w
            have w1 : Wf G H (a1 ++ (a :: dx :: (a2 ++ Ux))) := w0.perm (k4.symm.trans (by
              rw [List.cons_append, List.cons_append]
              refine ((h3.symm.append_right Ux).cons dx |>.cons a).trans ?_
              rw [List.append_assoc]
              exact (List.perm_middle (l₁ := a1) (a := a) |>.trans ((List.perm_middle (l₁ := a1) (a := dx)).cons a)).symm))
            obtain ⟨m1, sg, k⟩ := Mv.freeze w1
            have fz := RelD.freeze (Le.of sg) k h2
            have rel : RelD K (frzH G H a1) H (.ref a) (.ins c fs) (.nd true (ms.set j .fz)) (a :: dx :: a2) := .ins ha hd (h4 _ (Le.of sg) fz)
            have rl2 := Rl.back rel k1 (k3.mono (Le.of sg) fun _ _ => rfl) (get_lt he)
            have m2 : Mv G H ([] ++ U) (frzH G H a1) H ([] ++ (a :: dx :: a2 ++ Ux)) := (m1.permL (w1 |> fun _ => (k4.symm.trans (by
              rw [List.cons_append, List.cons_append]
              refine ((h3.symm.append_right Ux).cons dx |>.cons a).trans ?_
              rw [List.append_assoc]
              exact (List.perm_middle (l₁ := a1) (a := a) |>.trans ((List.perm_middle (l₁ := a1) (a := dx)).cons a)).symm)).symm))
            exact ⟨a, _, dx, vs, v, rfl, ha, c1, c2, h1, p v _ H [] _ m2 (.fz fz) rl2⟩
        · split at p
          · rename_i d' e1 hc'
            have ed := cut_rd (tree_rd et) hc'
            subst ed
            obtain ⟨G1, U1, m1, f1, r1⟩ := cut_ok w r rl hc'
            cases f1 with
            | @ins a dx _ vs _ ha ff =>
              obtain ⟨v, h1, h2⟩ := ff.field hf
              exact ⟨a, _, dx, vs, v, rfl, m1.wf.gh _ _ ha, c1, c2, h1, p v G1 H [] U1 m1 (.fz h2) r1⟩
          · exact p.elim
    · exact p.elim
  · exact p.elim
end
end Vs

namespace L2
open PySem PySem.Spec PyProof.Rows
section
variable {X : Cx} {K : PySem.W.Frag}
def rSlU (K : PySem.W.Frag) : V → Option Int → Option Int → Hp → VK → Prop := fun x lo hi H Q => rSlL K x lo hi H Q ∨ (rSlN K x lo hi H Q ∨ rSlS x lo hi H Q)
theorem sl_U (h : X.K = K) : SlR X (rSlU K) := SlR.or (sl_listK h) (SlR.or (sl_tupN h) sl_str)
abbrev rLenQ (K : PySem.W.Frag) : List V → Hp → VK → Prop := fun xs H Q => ∃ p ys, xs = [V.ref p] ∧ (SqL K H p ys ∨ SqT K H p ys) ∧ Q (.int ys.length) H
abbrev rLenS : List V → Hp → VK → Prop := fun xs H Q => ∃ z, xs = [V.str z] ∧ z.length ≤ sizeLine ∧ Q (.int z.length) H
def rLenF : List V → Hp → VK → Prop := fun xs H Q => ∃ a kvs, xs = [V.ref a] ∧ Rd H a (.dK kvs) ∧ Q (.int kvs.length) H
theorem call_lenF : CallR X (.builtin "len") rLenF := by
  intro pins s σ H xs us Q I r h
  obtain ⟨a, kvs, rfl, ha, q⟩ := h
  obtain ⟨u, rfl, ru⟩ := vals1 r
  cases ru
  exact d_len I ha fun t s' I' => ⟨.int kvs.length, H, I', ⟨t, rfl⟩, q⟩
def rLenU (K : PySem.W.Frag) : List V → Hp → VK → Prop := fun xs H Q => rLenQ K xs H Q ∨ (rLenS xs H Q ∨ rLenF xs H Q)
theorem call_lenU (h : X.K = K) : CallR X (.builtin "len") (rLenU K) := call_or (call_lenK h) (call_or call_len_str call_lenF)
end
end L2

namespace Vs
open PySem L2
section
variable {K : PySem.W.Frag} {T : CxA} {W : WX} {σ : St} {G H G1 H1 G2 H2 G' H' : Hp} {U U1 U2 U' u u' R : List Addr} {env : Env}
def takes : List OR → Env → Option (List (D × M) × Env)
  | [], e => some ([], e)
  | .tmp d m :: os, e => (match takes os e with
    | some (l, e1) => some ((d, m) :: l, e1)
    | none => none)
  | .slot i :: os, e => (match cut (.slot i) e with
    | some (d, e1) => (match takes os e1 with
      | some (l, e2) => some ((d, .fz) :: l, e2)
      | none => none)
    | none => none)
theorem takes_ok {os : List OR} : ∀ {G : Hp} {env : Env} {U : List Addr} {vs : List V} {u : List Addr} {l : List (D × M)} {env' : Env}, Wf G H (u ++ U) → RAs K σ G H vs os u → Rl K T G H σ env U → takes os env = some (l, env') →
    ∃ G' u' U', Mv G H (u ++ U) G' H (u' ++ U') ∧ RelL K G' H vs (l.map (·.1)) (l.map (·.2)) u' ∧ Rl K T G' H σ env' U' := by
  induction os with
  | nil =>
    intro G env U vs u l env' w a r e
    cases a
    simp only [takes, Option.some.injEq, Prod.mk.injEq] at e
    obtain ⟨rfl, rfl⟩ := e
    exact ⟨G, [], U, Mv.refl w, .fz .nil, r⟩
  | cons o os ih =>
    intro G env U vs u l env' w a r e
    cases a with
    | @cons v _ u1 vs _ u2 h t =>
    have w1 : Wf G H ((u1 ++ U) ++ u2) := w.perm (pm1 u1 u2 U)
    cases o with
    | tmp d m =>
      simp only [takes] at e
      split at e
      · rename_i l' e1 h1
        cases e
        have w2 : Wf G H ((u2 ++ U) ++ u1) := w.perm (by rw [List.append_assoc]; exact List.perm_append_comm)
        obtain ⟨G2, u', U2, m2, f2, r2⟩ := ih w2.left t r h1
        obtain ⟨m3, st⟩ := m2.frame w2
        refine ⟨G2, u1 ++ u', U2, (m3.permL (by rw [List.append_assoc u1 u2 U]; exact List.perm_append_comm)).permR (by rw [List.append_assoc u1 u' U2]; exact List.perm_append_comm), .cons (RelD.mono m2.gg st h) f2, r2⟩
      · cases e
    | slot i =>
      simp only [takes] at e
      split at e
      · rename_i d e1 h1
        split at e
        · rename_i l' e2 h2
          cases e
          obtain ⟨G1, U1, m1, f1, r1⟩ := cut_ok w1.left h r h1
          obtain ⟨m2, st⟩ := m1.frame w1
          have w2 : Wf G1 H (u2 ++ U1) := m2.wf.perm List.perm_append_comm
          obtain ⟨G2, u', U2, m3, f2, r2⟩ := ih w2 (t.mono m1.gg fun _ _ => rfl) r1 h2
          exact ⟨G2, u', U2, (m2.trans (m3.permL List.perm_append_comm)).permL (pm1 u1 U u2), .cons (u := []) (.fz (f1.mono K m3.gg)) f2, r2⟩
        · cases e
      · cases e
def normM (ms : List M) : List M := if ms.all isFz then [] else ms
theorem RelL.allFz : ∀ {vs : List V} {ds : List D} {ms : List M} {u : List Addr}, RelL K G H vs ds ms u → ms.all isFz = true → FzL K G vs ds ∧ u = []
  | _, _, _, _, .fz h, _ => ⟨h, rfl⟩
  | _, _, _, _, .cons h t, e => by
    rw [List.all_cons, Bool.and_eq_true] at e
    have := isFz_eq e.1
    subst this
    obtain ⟨h1, rfl⟩ := RelL.allFz t e.2
    cases h with
    | fz h => exact ⟨.cons h h1, rfl⟩
theorem RelL.norm {vs : List V} {ds : List D} {ms : List M} (h : RelL K G H vs ds ms u) : RelL K G H vs ds (normM ms) u := by
  unfold normM
  split
  · rename_i e
    obtain ⟨h1, rfl⟩ := h.allFz e
    exact .fz h1
  · exact h
def fTup (os : List OR) (e : Env) : Rs OR := match takes os e with
  | some (l, e1) => if l.length ≤ lim then .ok (.tmp (.tup (l.map (·.1))) (if (l.map (·.2)).all isFz then .fz else .nd false (l.map (·.2)))) e1 else .no
  | none => .no
def fLst (os : List OR) (e : Env) : Rs OR := match takes os e with
  | some (l, e1) => if l.length ≤ lim then .ok (.tmp (.lst (l.map (·.1))) (.nd true (normM (l.map (·.2))))) e1 else .no
  | none => .no
abbrev vTup : List V → Hp → VK → Prop := fun xs H Q => xs.length ≤ sizeLine ∧ NewT xs H Q
abbrev vLst : List V → Hp → VK → Prop := fun xs H Q => xs.length ≤ sizeLine ∧ ∀ p, H p = none → Q (.ref p) (upd H p (.lst xs))
theorem cbs_tup : CbS K T W vTup fTup := fun σ G H vs os u env U Q w a rl p => by
  unfold fTup at p
  split at p
  · rename_i l e1 h1
    obtain ⟨G1, u1, U1, m1, f1, r1⟩ := takes_ok w a rl h1
    split at p
    · rename_i hl
      have ll : vs.length = l.length := by rw [f1.length, List.length_map]
      refine ⟨by rw [ll]; exact Nat.le_trans hl lim_le, ?_⟩
      have fin : ∀ (q : Addr) (o : HO), H q = none → TupAt (upd G1 q o) q vs (l.map (·.1)) → Q (.ref q) (upd H q o) := fun q o hq ht => by
        have m2 := Mv.newG m1.wf (o := o) hq
        have st : ∀ a ∈ u1 ++ U1, upd H q o a = H a := fun a ha => upd_ne fun z => m1.wf.fresh hq (z ▸ ha)
        refine p (.ref q) _ _ u1 U1 (m1.trans m2) ?_ (r1.mono m2.gg fun a ha => st a (List.mem_append_right _ ha))
        show RelD K _ _ _ _ _ _
        split
        · rename_i e
          obtain ⟨f2, rfl⟩ := f1.allFz e
          exact .fz (.tup ht (f2.mono K m2.gg))
        · exact .tup ht (f1.mono m2.gg fun a ha => st a (List.mem_append_left _ ha))
      cases k : (l.map (·.1)).all kyD with
      | true => exact .inl fun q hq => fin q _ hq (.mk1 k upd_same)
      | false => exact .inr fun q o hq hn => fin q _ hq (.mk2 k upd_same hn)
    · exact p.elim
  · exact p.elim
theorem cbs_lst : CbS K T W vLst fLst := fun σ G H vs os u env U Q w a rl p => by
  unfold fLst at p
  split at p
  · rename_i l e1 h1
    obtain ⟨G1, u1, U1, m1, f1, r1⟩ := takes_ok w a rl h1
    split at p
    · rename_i hl
      have ll : vs.length = l.length := by rw [f1.length, List.length_map]
      refine ⟨by rw [ll]; exact Nat.le_trans hl lim_le, fun q hq => ?_⟩
      have m2 := Mv.newO m1.wf (o := .lst vs) hq
      have st : ∀ a ∈ u1 ++ U1, upd H q (.lst vs) a = H a := fun a ha => upd_ne fun z => m1.wf.fresh hq (z ▸ ha)
      exact p (.ref q) _ _ (q :: u1) U1 (m1.trans m2) (.lst upd_same ((f1.mono m2.gg fun a ha => st a (List.mem_append_left _ ha)).norm)) (r1.mono m2.gg fun a ha => st a (List.mem_append_right _ ha))
    · exact p.elim
  · exact p.elim
theorem snd_tup {ta : TA} {a : SA} (h : Snd K T (rA K) W ta a) : Snd K T (rE K) W (tTupN ta) (sCB fTup a) := show Snd K T (rE K) W (tCB vTup ta) _ from snd_cb h cbs_tup
theorem snd_lst {ta : TA} {a : SA} (h : Snd K T (rA K) W ta a) : Snd K T (rE K) W (tLst ta) (sCB fLst a) := show Snd K T (rE K) W (tCB vLst ta) _ from snd_cb h cbs_lst
def rO : RelB (Option Int) (Option Int) := fun _ _ _ b a u => b = a ∧ u = []
abbrev SO' := Env → Rs (Option Int)
def sNoPart : SO' := fun e => .ok none e
def sPart (s : SE) : SO' := fun e => (s e).bind fun o e1 => match rd o e1 with
  | some (.int i) => .ok (some i) e1
  | _ => .no
theorem snd_noPart : Snd K T rO W tNoPart sNoPart := fun σ G H env U w r Q p => p none G H [] U (Mv.refl w) ⟨rfl, rfl⟩ r
theorem snd_part {te : TE} {s : SE} (h : Snd K T (rE K) W te s) : Snd K T rO W (tPart te) (sPart s) := snd_look (t := fun x H Q => ∃ i, x = .int i ∧ Q (some i) H) h fun σ G H x o u env U Q w r rl p => by
  split at p
  · rename_i i e
    have f := rd_ok w.gh r rl e
    cases f
    exact ⟨i, rfl, p (some i) G H [] U (Mv.forget w) ⟨rfl, rfl⟩ rl⟩
  · exact p.elim
def slD (d : D) (lo hi : Option Int) : Option (D × M) := match d with
  | .lst xs => some (.lst (Nd.ndCut xs lo hi), .nd true [])
  | .scr xs => some (.lst (Nd.ndCut xs lo hi), .nd true [])
  | .tup xs => some (.tup (Nd.ndCut xs lo hi), .fz)
  | .str x => if x.length ≤ lim then some (.str (cutS x lo hi), .fz) else none
  | _ => none
def fSl (lo hi : Option Int) (o : OR) (e : Env) : Rs OR := match cut o e with
  | some (d, e1) => (match slD d lo hi with
    | some (z, m) => .ok (.tmp z m) e1
    | none => .no)
  | none => .no
def sSl (s : SE) (a b : SO') : SE := fun e => (s e).bind fun o e1 => (a e1).bind fun lo e2 => (b e2).bind fun hi e3 => fSl lo hi o e3
theorem fzl_cut {vs : List V} {ds : List D} {lo hi : Option Int} (h : FzL K G vs ds) : FzL K G (cutV vs lo hi) (Nd.ndCut ds lo hi) := by
  unfold cutV Nd.ndCut
  rw [h.length]
  exact (h.drop _).take _
theorem sl_mk {v : V} {d z : D} {m : M} {lo hi : Option Int} {Q : VK} (s : Same G H) (h : Fz K G v d) (e : slD d lo hi = some (z, m)) (q : ∀ v G' H' u, Mv G H [] G' H' u → RelD K G' H' v z m u → Q v H') : rSlU K v lo hi H Q := by
  cases h with
  | @lst a vs ds ha f =>
    cases e
    exact .inl ⟨a, vs, rfl, SqL.of (s _ _ ha), fun p hp => mk_lst s (fzl_cut f) q hp⟩
  | @scr a vs ds ha f =>
    cases e
    exact .inl ⟨a, vs, rfl, (Le.of s).sqL ha, fun p hp => mk_lst s (fzl_cut f) q hp⟩
  | @tup a vs ds ha f =>
    cases e
    refine .inr (.inl ⟨a, vs, rfl, ha.sq s, fun w => ?_, fun w => mk_tup s (fzl_cut f) q⟩)
    have ed : Nd.ndCut ds lo hi = ds := by
      unfold Nd.ndCut
      rw [← f.length, w.1, w.2, f.length]
      simp
    rw [ed] at q
    exact mk_old (vs := []) s (.tup ha f) q
  | str x =>
    simp only [slD] at e
    split at e
    · rename_i hl
      cases e
      exact .inr (.inr ⟨x, rfl, Nat.le_trans hl lim_le, mk_old (vs := []) s (.str _) q⟩)
    · cases e
  | _ => simp [slD] at e
theorem snd_sl {te : TE} {tl th : TO} {s : SE} {a b : SO'} (h : Snd K T (rE K) W te s) (ha : Snd K T rO W tl a) (hb : Snd K T rO W th b) : Snd K T (rE K) W (tSl (rSlU K) te tl th) (sSl s a b) := fun σ G H env U w rl Q p => by
  refine h σ G H env U w rl _ (post_bind (u := []) (Mv.refl w) p fun x o e1 G1 H1 u1 U1 e m1 _ _ h1 r1 => ?_)
  rw [List.nil_append] at m1
  rw [show sSl s a b env = ((a e1).bind fun lo e2 => (b e2).bind fun hi e3 => fSl lo hi o e3) by unfold sSl; rw [e]; rfl] at p
  refine ha σ G1 H1 e1 U1 m1.wf.right r1 _ (post_bind m1 p fun lo lo' e2 G2 H2 u2 U2 e' m2 g2 st h2 r2 => ?_)
  obtain ⟨rfl, rfl⟩ := h2
  rw [List.nil_append] at m2
  rw [e'] at p
  have p2 : Post K T (rE K) W σ G H U ((b e2).bind fun hi e3 => fSl lo hi o e3) Q := p
  refine hb σ G2 H2 e2 U2 m2.wf.right r2 _ (post_bind m2 p2 fun hi hi' e3 G3 H3 u3 U3 e'' m3 g3 st3 h3 r3 => ?_)
  obtain ⟨rfl, rfl⟩ := h3
  rw [List.nil_append] at m3
  rw [e''] at p2
  have p3 : Post K T (rE K) W σ G H U (fSl lo hi o e3) Q := p2
  have h13 := (h1.mono g2 st).mono g3 st3
  unfold fSl at p3
  split at p3
  · rename_i d e4 hc
    split at p3
    · rename_i z m hz
      obtain ⟨G4, U4, m4, f4, r4⟩ := cut_ok m3.wf h13 r3 hc
      refine sl_mk m4.wf.gh f4 hz fun v G5 H5 u5 m5 h5 => ?_
      obtain ⟨m6, st6⟩ := m5.frame (R := U4) m4.wf
      exact p3 v G5 H5 u5 U4 (m3.trans (m4.trans m6)) h5 (r4.mono m5.gg st6)
    · exact p3.elim
  · exact p3.elim
theorem FzL.reverse : ∀ {vs : List V} {ds : List D}, FzL K G vs ds → FzL K G vs.reverse ds.reverse
  | _, _, .nil => .nil
  | _, _, .cons h t => by rw [List.reverse_cons, List.reverse_cons]; exact (FzL.reverse t).append (.cons h .nil)
end
end Vs

namespace Vs
open PySem L2
inductive Fl where
  | nx (e : Env) | rt (d : D) (m : M) (e : Env) | bk (e : Env) | ct (e : Env) | ex (c : Str) (w : D) (e : Env) | no
abbrev SS := Env → Fl
def Ro (ro : List Nat) (σ σ' : St) : Prop := ∀ i ∈ ro, σ'[i]? = σ[i]?
theorem Ro.refl {ro : List Nat} {σ : St} : Ro ro σ σ := fun _ _ => rfl
theorem Ro.trans {ro : List Nat} {σ σ' σ'' : St} (h : Ro ro σ σ') (k : Ro ro σ' σ'') : Ro ro σ σ'' := fun i m => (k i m).trans (h i m)
theorem Ro.set {ro : List Nat} {σ : St} {i : Nat} {x : Option V} (h : i ∉ ro) : Ro ro σ (σ.set i x) := fun j m => List.getElem?_set_ne fun (z : i = j) => h (by rw [z]; exact m)
section
variable (K : PySem.W.Frag) (T : CxA) (ro : List Nat) (W : WX)
def PostS (σ : St) (G H : Hp) (U : List Addr) (E : Ends) (r : Fl) : Prop := match r with
  | .nx e => ∀ σ' G' H' U', Mv G H U G' H' U' → Rl K T G' H' σ' e U' → Ro ro σ σ' → E.nx σ' H'
  | .rt d m e => ∀ v σ' G' H' u U', Mv G H U G' H' (u ++ U') → RelD K G' H' v d m u → Rl K T G' H' σ' e U' → Ro ro σ σ' → E.rt v H'
  | .bk e => ∀ σ' G' H' U', Mv G H U G' H' U' → Rl K T G' H' σ' e U' → Ro ro σ σ' → E.bk σ' H'
  | .ct e => ∀ σ' G' H' U', Mv G H U G' H' U' → Rl K T G' H' σ' e U' → Ro ro σ σ' → E.ct σ' H'
  | .ex c w e => ∀ dx v σ' G' H' U', Mv G H U G' H' (dx :: U') → H' dx = some (.xd [(("what" : Str), v)]) → Fz K G' v w → Rl K T G' H' σ' e U' → Ro ro σ σ' → W (.ref (He.ga K c)) (some dx) σ' H'
  | .no => False
def SndS (t : TS) (s : SS) : Prop := ∀ σ G H env U (E : Ends), Wf G H U → Rl K T G H σ env U → PostS K T ro W σ G H U E (s env) → t E σ H
end
section
variable {K : PySem.W.Frag} {T : CxA} {ro : List Nat} {W : WX} {σ σ1 : St} {G H G1 H1 G2 H2 G' H' : Hp} {U U1 U2 U' u u' R : List Addr} {env : Env}
theorem PostS.from {E : Ends} {r : Fl} (m : Mv G H U G1 H1 U1) (o : Ro ro σ σ1) (p : PostS K T ro W σ G H U E r) : PostS K T ro W σ1 G1 H1 U1 E r := by
  cases r with
  | nx e => exact fun σ' G' H' U' m' r' o' => p σ' G' H' U' (m.trans m') r' (o.trans o')
  | rt d mm e => exact fun v σ' G' H' u U' m' h' r' o' => p v σ' G' H' u U' (m.trans m') h' r' (o.trans o')
  | bk e => exact fun σ' G' H' U' m' r' o' => p σ' G' H' U' (m.trans m') r' (o.trans o')
  | ct e => exact fun σ' G' H' U' m' r' o' => p σ' G' H' U' (m.trans m') r' (o.trans o')
  | ex c w e => exact fun dx v σ' G' H' U' m' h1 h2 r' o' => p dx v σ' G' H' U' (m.trans m') h1 h2 r' (o.trans o')
  | no => exact p
def sBind {α : Type} (s : Env → Rs α) (k : α → Env → Fl) : SS := fun e => match s e with
  | .ok a e1 => k a e1
  | .ex c w e1 => .ex c w e1
  | .no => .no
theorem snds_bind {α β : Type} {rel : RelB α β} {t : St → Hp → (β → Hp → Prop) → Prop} {s : Env → Rs α} {k : α → Env → Fl} {tk : β → Ends → St → Hp → Prop} (h : Snd K T rel W t s)
    (hk : ∀ σ G H b a u env U E, Wf G H (u ++ U) → rel σ G H b a u → Rl K T G H σ env U → PostS K T ro W σ G H (u ++ U) E (k a env) → tk b E σ H) : SndS K T ro W (fun E σ H => t σ H fun b H1 => tk b E σ H1) (sBind s k) := fun σ G H env U E w rl p => by
  refine h σ G H env U w rl _ ?_
  unfold sBind at p
  cases q : s env with
  | no => rw [q] at p; exact p
  | ok a e1 =>
    rw [q] at p
    exact fun b G1 H1 u1 U1 m1 h1 r1 => hk σ G1 H1 b a u1 e1 U1 E m1.wf h1 r1 (p.from m1 Ro.refl)
  | ex c w' e1 =>
    rw [q] at p
    exact fun dx v G1 H1 U1 m1 h1 h2 r1 => p dx v σ G1 H1 U1 m1 h1 h2 r1 Ro.refl
def sSkip : SS := fun e => .nx e
def sSeq (s t : SS) : SS := fun e => match s e with
  | .nx e1 => t e1
  | r => r
theorem snds_skip : SndS K T ro W tNext sSkip := fun σ G H env U E w r p => p σ G H U (Mv.refl w) r Ro.refl
theorem snds_seq {t1 t2 : TS} {s1 s2 : SS} (h1 : SndS K T ro W t1 s1) (h2 : SndS K T ro W t2 s2) : SndS K T ro W (tSeq t1 t2) (sSeq s1 s2) := fun σ G H env U E w r p => by
  refine h1 σ G H env U _ w r ?_
  unfold sSeq at p
  cases q : s1 env with
  | nx e1 =>
    rw [q] at p
    exact fun σ' G' H' U' m' r' o' => h2 σ' G' H' e1 U' E m'.wf r' (p.from m' o')
  | rt d m e => rw [q] at p; exact p
  | bk e => rw [q] at p; exact p
  | ct e => rw [q] at p; exact p
  | ex c w e => rw [q] at p; exact p
  | no => rw [q] at p; exact p
def sIfS (c : ST) (s t : SS) : SS := sBind c fun b e => if b then s e else t e
theorem snds_if {c : TT} {sc : ST} {t1 t2 : TS} {s1 s2 : SS} (hc : Snd K T rT W c sc) (h1 : SndS K T ro W t1 s1) (h2 : SndS K T ro W t2 s2) : SndS K T ro W (tIfS c t1 t2) (sIfS sc s1 s2) :=
  snds_bind (tk := fun b E σ H => if b = true then t1 E σ H else t2 E σ H) hc fun σ G H b a u env U E w hr r p => by
    obtain ⟨rfl, rfl⟩ := hr
    cases b with
    | true => rw [if_pos rfl]; rw [if_pos rfl] at p; exact h1 σ G H env U E w r p
    | false => rw [if_neg Bool.false_ne_true]; rw [if_neg Bool.false_ne_true] at p; exact h2 σ G H env U E w r p
def sDrop (s : SE) : SS := sBind s fun _ e => .nx e
theorem snds_drop {te : TE} {s : SE} (h : Snd K T (rE K) W te s) : SndS K T ro W (tDrop te) (sDrop s) :=
  snds_bind (tk := fun _ E σ H => E.nx σ H) h fun σ G H b a u env U E w _ r p => p σ G H U (Mv.forget w) r Ro.refl
def sRet (s : SE) : SS := sBind s fun o e => match o with
  | .tmp d m => .rt d m e
  | .slot i => (match e[i]? with
    | some (some (.val d m)) => .rt d m (e.set i none)
    | _ => .no)
theorem Rl.emp {i : Nat} (r : Rl K T G H σ env U) : True := trivial
theorem snds_ret {te : TE} {s : SE} (h : Snd K T (rE K) W te s) : SndS K T ro W (tRet te) (sRet s) :=
  snds_bind (tk := fun b E _ H => E.rt b H) h fun σ G H b a u env U E w hr r p => by
    cases a with
    | tmp d m => exact p b σ G H u U (Mv.refl w) hr r Ro.refl
    | slot i =>
      dsimp only at p
      split at p
      · rename_i d m he
        obtain ⟨hv, rfl⟩ := hr
        obtain ⟨v', u', U', h1, h2, h3, h4⟩ := r.takeV he
        have : v' = b := by
          have z := h1.symm.trans hv
          cases z; rfl
        subst this
        exact p v' σ G H u' U' ((Mv.refl w).permR h4.symm) h2 h3 Ro.refl
      · exact p.elim
def sRetN : SS := fun e => .rt .non .fz e
abbrev SG := D → M → Env → Option Env
def SndG (K : PySem.W.Frag) (T : CxA) (ro : List Nat) (g : TG) (f : SG) : Prop := ∀ σ G H v d m u env U env', Wf G H (u ++ U) → RelD K G H v d m u → Rl K T G H σ env U → f d m env = some env' → ∀ Q : St → Hp → Prop,
  (∀ σ' U', Mv G H (u ++ U) G H U' → Rl K T G H σ' env' U' → Ro ro σ σ' → σ'.length = σ.length → Q σ' H) → g v σ H Q
def gN (i : Nat) : SG := fun d m e => if i < e.length then some (e.set i (some (.val d m))) else none
theorem sndg_name {i : Nat} (h : i ∉ ro) : SndG K T ro (gName i) (gN i) := fun σ G H v d m u env U env' w hr r e Q q => by
  unfold gN at e
  split at e
  · rename_i hi
    cases e
    obtain ⟨ud, U1, r1, p1⟩ := r.drop i (some v)
    have r2 : Rl K T G H (σ.set i (some v)) (env.set i (some (.val d m))) (u ++ U1) := by
      have z := Rl.put (i := i) hr r1 (by rw [List.getElem?_set_self hi])
      rw [List.set_set, List.set_set] at z
      exact z
    have m1 : Mv G H (u ++ U) G H (u ++ U1) := by
      have w' : Wf G H (ud ++ (u ++ U1)) := w.perm ((p1.symm.append_left u).trans (List.perm_append_comm_assoc u ud U1))
      exact (Mv.forget w').permL ((List.perm_append_comm_assoc ud u U1).trans (p1.append_left u))
    exact q _ _ m1 r2 (Ro.set h) List.length_set
  · cases e
theorem RelL.uncons {v : V} {vs : List V} {d : D} {ds : List D} {ms : List M} (h : RelL K G H (v :: vs) (d :: ds) ms u) : ∃ u1 u2, u = u1 ++ u2 ∧ RelD K G H v d (ms.headD .fz) u1 ∧ RelL K G H vs ds ms.tail u2 := by
  cases h with
  | fz h => cases h with | cons a t => exact ⟨[], [], rfl, .fz a, .fz t⟩
  | @cons _ _ m u1 _ _ ms u2 a t => exact ⟨u1, u2, rfl, a, t⟩
abbrev SGs := List D → List M → Env → Option Env
def gsNil : SGs := fun ds _ e => match ds with
  | [] => some e
  | _ => none
def gsCons (f : SG) (g : SGs) : SGs := fun ds ms e => match ds with
  | d :: ds => (f d (ms.headD .fz) e).bind fun e1 => g ds ms.tail e1
  | [] => none
def gTp (f : SGs) : SG := fun d m e => match d with
  | .tup ds => f ds (match m with | .nd _ ms => ms | .fz => []) e
  | .pr a b => f [a, b] [] e
  | _ => none
def gT2 (f g : SG) : SG := gTp (gsCons f (gsCons g gsNil))
def own (o : OR) (e : Env) : Option (D × M × Env) := match o with
  | .tmp d m => some (d, m, e)
  | .slot i => (cut (.slot i) e).map fun p => (p.1, .fz, p.2)
theorem own_ok {v : V} {o : OR} {d : D} {m : M} {env' : Env} (w : Wf G H (u ++ U)) (h : ROr K σ G H v o u) (r : Rl K T G H σ env U) (e : own o env = some (d, m, env')) : ∃ G' u' U', Mv G H (u ++ U) G' H (u' ++ U') ∧ RelD K G' H v d m u' ∧ Rl K T G' H σ env' U' := by
  cases o with
  | tmp d' m' =>
    simp only [own, Option.some.injEq, Prod.mk.injEq] at e
    obtain ⟨rfl, rfl, rfl⟩ := e
    exact ⟨G, u, U, Mv.refl w, h, r⟩
  | slot i =>
    simp only [own, Option.map_eq_some_iff] at e
    obtain ⟨p, hp, e⟩ := e
    cases e
    obtain ⟨G', U', m1, f, r1⟩ := cut_ok w h r hp
    exact ⟨G', [], U', m1, .fz f, r1⟩
def sAsg (s : SE) (f : SG) : SS := sBind s fun o e => match own o e with
  | some (d, m, e1) => (match f d m e1 with
    | some e2 => .nx e2
    | none => .no)
  | none => .no
theorem snds_asg {te : TE} {g : TG} {s : SE} {f : SG} (h : Snd K T (rE K) W te s) (hg : SndG K T ro g f) : SndS K T ro W (tAsg te g) (sAsg s f) :=
  snds_bind (tk := fun x E σ H => g x σ H E.nx) h fun σ G H b a u env U E w hr r p => by
    split at p
    · rename_i d m e1 ho
      split at p
      · rename_i e2 hf
        obtain ⟨G1, u1, U1, m1, h1, r1⟩ := own_ok w hr r ho
        exact hg σ G1 H b d m u1 e1 U1 e2 m1.wf h1 r1 hf _ fun σ' U' m2 r2 o2 _ => p σ' G1 H U' (m1.trans m2) r2 o2
      · exact p.elim
    · exact p.elim
end
end Vs

namespace Vs
open PySem L2
section
variable {K : PySem.W.Frag} {T : CxA} {ro : List Nat} {W : WX} {σ σ1 : St} {G H G1 H1 G2 H2 G' H' : Hp} {U U1 U2 U' u u' R : List Addr} {env : Env}
abbrev LeF (G G' : Hp) : Prop := Le G G' ∧ Fk G G'
def rI (K : PySem.W.Frag) : RelB (List D) It := fun _ G H J ds u => u = [] ∧ ∃ (Gd : Hp → Prop) (Y : Nat → Hp → V → Hp → Prop), Walk J ds.length Gd Y ∧ (∀ G' H', LeF G G' → Same G' H' → Gd H') ∧
  ∀ i d G' H' U' x H'', ds[i]? = some d → LeF G G' → Wf G' H' U' → Y i H' x H'' → ∃ G'', Mv G' H' U' G'' H'' U' ∧ Fz K G'' x d ∧ ∀ a ∈ U', H'' a = H' a
def forL (f : SG) (b : SS) : List D → Env → Fl
  | [], e => .nx e
  | d :: ds, e => match f d .fz e with
    | none => .no
    | some e1 => (match b e1 with
      | .nx e2 => forL f b ds e2
      | .ct e2 => forL f b ds e2
      | .bk e2 => .nx e2
      | r => r)
def sFor (s : Env → Rs (List D)) (f : SG) (b : SS) : SS := sBind s fun ds e => forL f b ds e
def tForA (g : TG) (tb : TS) (J : It) (E : Ends) (σ : St) (H : Hp) : Prop := tFor (fun _ H R => R J H) g tb E σ H
theorem for_after {g : TG} {tb : TS} {f : SG} {b : SS} (hg : SndG K T ro g f) (hb : SndS K T ro W tb b) (σ : St) (G H : Hp) (J : It) (ds : List D) (u : List Addr) (env : Env) (U : List Addr) (E : Ends) (w : Wf G H (u ++ U)) (hr : rI K σ G H J ds u) (r : Rl K T G H σ env U) (p : PostS K T ro W σ G H (u ++ U) E (forL f b ds env)) : tForA g tb J E σ H := by
    show tFor (fun _ H R => R J H) g tb E σ H
    obtain ⟨rfl, Gd, Y, wk, hG, hY⟩ := hr
    rw [List.nil_append] at w p
    refine for_it wk (fun i σ' H' => ∃ G' U' e', Mv G H U G' H' U' ∧ Rl K T G' H' σ' e' U' ∧ Ro ro σ σ' ∧ PostS K T ro W σ' G' H' U' E (forL f b (ds.drop i) e')) ⟨G, U, env, Mv.refl w, r, Ro.refl, by simpa using p⟩ (fun i σ' H' _ ⟨G', U', e', m', _⟩ => hG G' H' ⟨m'.gg, m'.fk⟩ m'.wf.gh) ?_ ?_
    · rintro i x σ' H' H'' hi ⟨G', U', e', m', r', o', p'⟩ y
      obtain ⟨d, hd⟩ : ∃ d, ds[i]? = some d := ⟨ds[i], by simp [hi]⟩
      obtain ⟨G2, m2, fx, st⟩ := hY i d G' H' U' x H'' hd ⟨m'.gg, m'.fk⟩ m'.wf y
      have hdr : ds.drop i = d :: ds.drop (i + 1) := by
        rw [List.drop_eq_getElem_cons hi]
        have : ds[i] = d := by
          have z := hd
          rw [List.getElem?_eq_getElem hi] at z
          exact Option.some.inj z
        rw [this]
      rw [hdr, forL] at p'
      cases qf : f d .fz e' with
      | none => rw [qf] at p'; exact p'.elim
      | some e1 =>
        rw [qf] at p'
        dsimp only at p'
        refine hg σ' G2 H'' x d .fz [] e' U' e1 m2.wf (.fz fx) (r'.mono m2.gg st) qf _ fun σ2 U2 m3 r3 o3 _ => ?_
        refine hb σ2 G2 H'' e1 U2 _ m3.wf r3 ?_
        have mm : Mv G' H' U' G2 H'' U2 := m2.trans m3
        cases qb : b e1 with
        | nx e2 =>
          rw [qb] at p'
          exact fun σ4 G4 H4 U4 m4 r4 o4 => ⟨G4, U4, e2, (m'.trans mm).trans m4, r4, (o'.trans o3).trans o4, p'.from (mm.trans m4) (o3.trans o4)⟩
        | ct e2 =>
          rw [qb] at p'
          exact fun σ4 G4 H4 U4 m4 r4 o4 => ⟨G4, U4, e2, (m'.trans mm).trans m4, r4, (o'.trans o3).trans o4, p'.from (mm.trans m4) (o3.trans o4)⟩
        | bk e2 =>
          rw [qb] at p'
          exact fun σ4 G4 H4 U4 m4 r4 o4 => p' σ4 G4 H4 U4 (mm.trans m4) r4 (o3.trans o4)
        | rt d2 m2' e2 =>
          rw [qb] at p'
          exact fun v σ4 G4 H4 u4 U4 m4 h4 r4 o4 => p' v σ4 G4 H4 u4 U4 (mm.trans m4) h4 r4 (o3.trans o4)
        | ex c w' e2 =>
          rw [qb] at p'
          exact fun dx v σ4 G4 H4 U4 m4 h4 h5 r4 o4 => p' dx v σ4 G4 H4 U4 (mm.trans m4) h4 h5 r4 (o3.trans o4)
        | no => rw [qb] at p'; exact p'
    · rintro σ' H' ⟨G', U', e', m', r', o', p'⟩
      rw [List.drop_length, forL] at p'
      exact p' σ' G' H' U' (Mv.refl m'.wf) r' Ro.refl
theorem snds_for {wi : TI} {g : TG} {tb : TS} {s : Env → Rs (List D)} {f : SG} {b : SS} (h : Snd K T (rI K) W wi s) (hg : SndG K T ro g f) (hb : SndS K T ro W tb b) : SndS K T ro W (tFor wi g tb) (sFor s f b) :=
  snds_bind (tk := tForA g tb) h (for_after hg hb)
def whL (c : ST) (b : SS) : Nat → Env → Fl
  | 0, _ => .no
  | n + 1, e => match c e with
    | .ok true e1 => (match b e1 with
      | .nx e2 => whL c b n e2
      | .ct e2 => whL c b n e2
      | .bk e2 => .nx e2
      | r => r)
    | .ok false e1 => .nx e1
    | .ex x w e1 => .ex x w e1
    | .no => .no
def sWhile (k : Env → Nat) (c : ST) (b : SS) : SS := fun e => whL c b (k e) e
theorem snds_while {t : TT} {tb : TS} {k : Env → Nat} {c : ST} {b : SS} (hc : Snd K T rT W t c) (hb : SndS K T ro W tb b) : SndS K T ro W (tWhile t tb) (sWhile k c b) := fun σ G H env U E w r p => by
  refine ⟨fun n σ' H' => ∃ G' U' e', Mv G H U G' H' U' ∧ Rl K T G' H' σ' e' U' ∧ Ro ro σ σ' ∧ PostS K T ro W σ' G' H' U' E (whL c b n e'), ⟨k env, G, U, env, Mv.refl w, r, Ro.refl, p⟩, ?_⟩
  rintro n σ' H' ⟨G', U', e', m', r', o', p'⟩
  cases n with
  | zero => exact p'.elim
  | succ n =>
    rw [whL] at p'
    refine hc σ' G' H' e' U' m'.wf r' _ ?_
    cases qc : c e' with
    | no => rw [qc] at p'; exact p'
    | ex x w' e1 =>
      rw [qc] at p'
      exact fun dx v G1 H1 U1 m1 h1 h2 r1 => p' dx v σ' G1 H1 U1 m1 h1 h2 r1 Ro.refl
    | ok v e1 =>
      rw [qc] at p'
      intro b' G1 H1 u1 U1 m1 h1 r1
      obtain ⟨rfl, rfl⟩ := h1
      rw [List.nil_append] at m1
      cases b' with
      | false =>
        rw [if_neg Bool.false_ne_true]
        exact p' σ' G1 H1 U1 m1 r1 Ro.refl
      | true =>
        rw [if_pos rfl]
        refine ⟨fun σ4 H4 => ∃ n', n' < n + 1 ∧ ∃ G' U' e', Mv G H U G' H4 U' ∧ Rl K T G' H4 σ4 e' U' ∧ Ro ro σ σ4 ∧ PostS K T ro W σ4 G' H4 U' E (whL c b n' e'), fun σ4 H4 z => z, ?_⟩
        dsimp only at p'
        refine hb σ' G1 H1 e1 U1 _ m1.wf r1 ?_
        cases qb : b e1 with
        | nx e2 =>
          rw [qb] at p'
          exact fun σ4 G4 H4 U4 m4 r4 o4 => ⟨n, Nat.lt_succ_self n, G4, U4, e2, (m'.trans m1).trans m4, r4, o'.trans o4, p'.from (m1.trans m4) o4⟩
        | ct e2 =>
          rw [qb] at p'
          exact fun σ4 G4 H4 U4 m4 r4 o4 => ⟨n, Nat.lt_succ_self n, G4, U4, e2, (m'.trans m1).trans m4, r4, o'.trans o4, p'.from (m1.trans m4) o4⟩
        | bk e2 =>
          rw [qb] at p'
          exact fun σ4 G4 H4 U4 m4 r4 o4 => p' σ4 G4 H4 U4 (m1.trans m4) r4 o4
        | rt d2 m2' e2 =>
          rw [qb] at p'
          exact fun v σ4 G4 H4 u4 U4 m4 h4 r4 o4 => p' v σ4 G4 H4 u4 U4 (m1.trans m4) h4 r4 o4
        | ex x w' e2 =>
          rw [qb] at p'
          exact fun dx v σ4 G4 H4 U4 m4 h4 h5 r4 o4 => p' dx v σ4 G4 H4 U4 (m1.trans m4) h4 h5 r4 o4
        | no => rw [qb] at p'; exact p'
end
end Vs

namespace Vs
open PySem L2
inductive Rf where
  | ok (d : D) (m : M) (ps : Env) | ex (c : Str) (w : D) (ps : Env) | no
def outs : List Bool → Env → Env
  | [], _ => []
  | b :: bs, x :: e => (if b then x else none) :: outs bs e
  | _ :: bs, [] => none :: outs bs []
def fnS (io : List Bool) (nl : Nat) (s : SS) (a : Env) : Rf := if a.length = io.length then (match s (a ++ List.replicate nl none) with
  | .rt d m e => .ok d m (outs io e)
  | .nx e => .ok .non .fz (outs io e)
  | .ex c w e => .ex c w (outs io e)
  | _ => .no) else .no
section
variable (K : PySem.W.Frag)
def PostF (vs : List V) (G H : Hp) (U : List Addr) (Q : VK) (E : XK) (r : Rf) : Prop := match r with
  | .ok d m ps => ∀ v G' H' u U', Mv G H U G' H' (u ++ U') → RelD K G' H' v d m u → Rl K none G' H' (vs.map some) ps U' → Q v H'
  | .ex c w ps => ∀ dx v G' H' U', Mv G H U G' H' (dx :: U') → H' dx = some (.xd [(("what" : Str), v)]) → Fz K G' v w → Rl K none G' H' (vs.map some) ps U' → E (.ref (He.ga K c)) (some dx) H'
  | .no => False
def spV (n : Nat) (F : Env → Rf) : Sp := fun vs H Q E => vs.length = n ∧ ∃ G U a, Wf G H U ∧ Rl K none G H (vs.map some) a U ∧ PostF K vs G H U Q E (F a)
end
section
variable {K : PySem.W.Frag} {T : CxA} {ro : List Nat} {W : WX} {σ σ1 : St} {G H G1 H1 G2 H2 G' H' : Hp} {U U1 U2 U' u u' R : List Addr} {env : Env}
theorem RlL.pad (n : Nat) : ∀ {σ : St} {env : Env} {U : List Addr}, RlL K T G H σ env U → RlL K T G H (σ ++ List.replicate n none) (env ++ List.replicate n none) U
  | _, _, _, .nil => by
    induction n with
    | zero => exact .nil
    | succ n ih => exact .emp ih
  | _, _, _, .emp r => .emp (RlL.pad n r)
  | _, _, _, .val h r => .val h (RlL.pad n r)
  | _, _, _, .cau a b c r => .cau a b c (RlL.pad n r)
theorem Rl.pad (n : Nat) (r : Rl K T G H σ env U) : Rl K T G H (σ ++ List.replicate n none) (env ++ List.replicate n none) U := let ⟨U0, h, p⟩ := r; ⟨U0, h.pad n, p⟩
def ioIx (io : List Bool) : List Nat := (List.range io.length).filter fun i => io.getD i false
theorem mem_ioIx {io : List Bool} {i : Nat} (h : io[i]? = some true) : i ∈ ioIx io := by
  unfold ioIx
  rw [List.mem_filter, List.mem_range]
  exact ⟨get_lt h, by simp [List.getD_eq_getElem?_getD, h]⟩
theorem outs_ok : ∀ {io : List Bool} {vs : List V} {σ : St} {e : Env} {U : List Addr}, RlL K none G H σ e U → io.length = vs.length → (∀ (i : Nat), io[i]? = some true → σ[i]? = (vs.map some)[i]?) →
    ∃ ud U', RlL K none G H (vs.map some) (outs io e) U' ∧ (ud ++ U').Perm U
  | [], vs, σ, e, U, r, hl, _ => by
    have : vs = [] := List.length_eq_zero_iff.mp hl.symm
    subst this
    exact ⟨U, [], .nil, by simp⟩
  | b :: io, [], _, _, _, _, hl, _ => by cases hl
  | b :: io, v :: vs, _, _, _, .nil, hl, hs => by
    obtain ⟨ud, U', h1, h2⟩ := outs_ok (io := io) (vs := vs) (RlL.nil (K := K) (T := none) (G := G) (H := H)) (by simpa using hl) (fun i hi => by simpa using hs (i + 1) (by simpa using hi))
    exact ⟨ud, U', .emp h1, h2⟩
  | b :: io, v :: vs, _, _, _, @RlL.emp _ _ _ _ x σ env U r, hl, hs => by
    obtain ⟨ud, U', h1, h2⟩ := outs_ok r (by simpa using hl) (fun i hi => by simpa using hs (i + 1) (by simpa using hi))
    refine ⟨ud, U', ?_, h2⟩
    show RlL K none G H (some v :: vs.map some) ((if b then none else none) :: outs io env) U'
    rw [ite_self]
    exact .emp h1
  | b :: io, v :: vs, _, _, _, @RlL.val _ _ _ _ v' d m u σ env U h r, hl, hs => by
    obtain ⟨ud, U', h1, h2⟩ := outs_ok r (by simpa using hl) (fun i hi => by simpa using hs (i + 1) (by simpa using hi))
    cases b with
    | false => exact ⟨u ++ ud, U', .emp h1, by rw [List.append_assoc]; exact h2.append_left u⟩
    | true =>
      have z := hs 0 rfl
      have : v' = v := by simpa using z
      subst this
      exact ⟨ud, u ++ U', .val h h1, (List.perm_append_comm_assoc ud u U').trans (h2.append_left u)⟩
  | b :: io, v :: vs, _, _, _, .cau hT _ _ _, _, _ => by cases hT
abbrev WO (E : XK) : WX := fun cls d _ H => E cls d H
theorem body_ok {io : List Bool} {nl n : Nat} {t : TS} {s : SS} {N : List Str} {vs : List V} {Q : VK} {E : XK} (hn : io.length = n) (hN : N.length = n + nl) (h : SndS K none (ioIx io) (WO E) t s) (p : spV K n (fnS io nl s) vs H Q E) : t { nx := fun _ H' => Q .non H', rt := Q } (L2.start N vs) H := by
  obtain ⟨hl, G, U, a, w, r, p⟩ := p
  have la : a.length = n := by rw [← r.length, List.length_map, hl]
  have r0 : Rl K none G H (L2.start N vs) (a ++ List.replicate nl none) U := by
    unfold L2.start
    rw [hN, hl, Nat.add_sub_cancel_left]
    exact r.pad nl
  have ag : ∀ (i : Nat), io[i]? = some true → (L2.start N vs)[i]? = (vs.map some)[i]? := fun i hi => by
    have := get_lt hi
    unfold L2.start
    rw [List.getElem?_append_left (by rw [List.length_map]; omega)]
  unfold fnS at p
  rw [if_pos (by rw [la, hn])] at p
  refine h (L2.start N vs) G H _ U _ w r0 ?_
  have back : ∀ {σ' : St} {e : Env} {G' H' : Hp} {U' : List Addr}, Rl K none G' H' σ' e U' → Ro (ioIx io) (L2.start N vs) σ' → ∃ ud U'', Rl K none G' H' (vs.map some) (outs io e) U'' ∧ (ud ++ U'').Perm U' := fun {σ' e G' H' U'} r' o' => by
    obtain ⟨U0, k, pm⟩ := r'
    obtain ⟨ud, U'', k1, k2⟩ := outs_ok (io := io) (vs := vs) k (by rw [hn, hl]) fun i hi => (o' i (mem_ioIx hi)).trans (ag i hi)
    exact ⟨ud, U'', ⟨U'', k1, List.Perm.refl _⟩, k2.trans pm⟩
  cases q : s (a ++ List.replicate nl none) with
  | rt d m e =>
    rw [q] at p
    intro v σ' G' H' u U' m' hv r' o'
    obtain ⟨ud, U'', k1, k2⟩ := back r' o'
    have w' : Wf G' H' (ud ++ (u ++ U'')) := m'.wf.perm ((k2.symm.append_left u).trans (List.perm_append_comm_assoc u ud U''))
    exact p v G' H' u U'' (m'.trans ((Mv.forget w').permL ((List.perm_append_comm_assoc ud u U'').trans (k2.append_left u)))) hv k1
  | nx e =>
    rw [q] at p
    intro σ' G' H' U' m' r' o'
    obtain ⟨ud, U'', k1, k2⟩ := back r' o'
    exact p .non G' H' [] U'' (m'.trans ((Mv.forget (m'.wf.perm k2.symm)).permL k2)) (.fz .non) k1
  | ex c w' e =>
    rw [q] at p
    intro dx v σ' G' H' U' m' h1 h2 r' o'
    obtain ⟨ud, U'', k1, k2⟩ := back r' o'
    have w' : Wf G' H' (ud ++ (dx :: U'')) := m'.wf.perm ((k2.symm.cons dx).trans List.perm_middle.symm)
    exact p dx v G' H' U'' (m'.trans ((Mv.forget w').permL (List.perm_middle.trans (k2.cons dx)))) h1 h2 k1
  | bk e => rw [q] at p; exact p.elim
  | ct e => rw [q] at p; exact p.elim
  | no => rw [q] at p; exact p.elim
def prep : List Bool → List OR → Env → Option (Env × Env)
  | [], [], e => some ([], e)
  | false :: bs, o :: os, e => (match cut o e with
    | some (d, e1) => (match prep bs os e1 with
      | some (a, e2) => some (some (.val d .fz) :: a, e2)
      | none => none)
    | none => none)
  | true :: bs, .tmp d m :: os, e => (match prep bs os e with
    | some (a, e2) => some (some (.val d m) :: a, e2)
    | none => none)
  | true :: bs, .slot i :: os, e => (match e[i]? with
    | some (some (.val d m)) => (match prep bs os (e.set i none) with
      | some (a, e2) => some (some (.val d m) :: a, e2)
      | none => none)
    | _ => none)
  | _, _, _ => none
def wb : List OR → Env → Env → Option Env
  | [], [], e => some e
  | _ :: os, none :: ps, e => wb os ps e
  | .tmp _ _ :: os, some _ :: ps, e => wb os ps e
  | .slot i :: os, some (.val d m) :: ps, e => (match e[i]? with
    | some none => wb os ps (e.set i (some (.val d m)))
    | _ => none)
  | _, _, _ => none
theorem Rl.cons {v : V} {d : D} {m : M} {u1 Ua : List Addr} {vs : List V} {a : Env} (h : RelD K G H v d m u1) (r : Rl K T G H (vs.map some) a Ua) : Rl K T G H ((v :: vs).map some) (some (.val d m) :: a) (u1 ++ Ua) := let ⟨U0, k, p⟩ := r; ⟨u1 ++ U0, .val h k, p.append_left u1⟩
theorem prep_ok {os : List OR} : ∀ {io : List Bool} {G : Hp} {env : Env} {U : List Addr} {vs : List V} {u : List Addr} {a env' : Env}, Wf G H (u ++ U) → RAs K σ G H vs os u → Rl K T G H σ env U → prep io os env = some (a, env') →
    ∃ G' Ua U', Mv G H (u ++ U) G' H (Ua ++ U') ∧ Rl K none G' H (vs.map some) a Ua ∧ Rl K T G' H σ env' U' := by
  induction os with
  | nil =>
    intro io G env U vs u a env' w ra r e
    cases ra
    cases io with
    | nil =>
      simp only [prep, Option.some.injEq, Prod.mk.injEq] at e
      obtain ⟨rfl, rfl⟩ := e
      exact ⟨G, [], U, Mv.refl w, ⟨[], .nil, List.Perm.refl _⟩, r⟩
    | cons b io => cases b <;> simp [prep] at e
  | cons o os ih =>
    intro io G env U vs u a env' w ra r e
    cases ra with
    | @cons v _ u1 vs _ u2 h t =>
    have w1 : Wf G H ((u1 ++ U) ++ u2) := w.perm (pm1 u1 u2 U)
    cases io with
    | nil => simp [prep] at e
    | cons b io =>
      cases b with
      | false =>
        simp only [prep] at e
        split at e
        · rename_i d e1 h1
          split at e
          · rename_i a' e2 h2
            cases e
            obtain ⟨G1, U1, m1, f1, r1⟩ := cut_ok w1.left h r h1
            obtain ⟨m2, st⟩ := m1.frame w1
            have w2 : Wf G1 H (u2 ++ U1) := m2.wf.perm List.perm_append_comm
            obtain ⟨G2, Ua, U2, m3, f2, r2⟩ := ih w2 (t.mono m1.gg fun _ _ => rfl) r1 h2
            exact ⟨G2, Ua, U2, (m2.trans (m3.permL List.perm_append_comm)).permL (pm1 u1 U u2), Rl.cons (u1 := []) (.fz (f1.mono K m3.gg)) f2, r2⟩
          · cases e
        · cases e
      | true =>
        cases o with
        | tmp d m =>
          simp only [prep] at e
          split at e
          · rename_i a' e2 h2
            cases e
            have w2 : Wf G H ((u2 ++ U) ++ u1) := w.perm (by rw [List.append_assoc]; exact List.perm_append_comm)
            obtain ⟨G2, Ua, U2, m2, f2, r2⟩ := ih w2.left t r h2
            obtain ⟨m3, st⟩ := m2.frame w2
            exact ⟨G2, u1 ++ Ua, U2, (m3.permL (by rw [List.append_assoc u1 u2 U]; exact List.perm_append_comm)).permR (by rw [List.append_assoc u1 Ua U2]; exact List.perm_append_comm), Rl.cons (RelD.mono m2.gg st h) f2, r2⟩
          · cases e
        | slot i =>
          simp only [prep] at e
          split at e
          · rename_i d m he
            split at e
            · rename_i a' e2 h2
              cases e
              obtain ⟨hv, rfl⟩ := h
              obtain ⟨v', ui, Ui, k1, k2, k3, k4⟩ := r.takeV he
              have : v' = v := by
                have z := k1.symm.trans hv
                cases z; rfl
              subst this
              have w0 : Wf G H (u2 ++ U) := w
              have w2 : Wf G H ((u2 ++ Ui) ++ ui) := w0.perm (by rw [List.append_assoc]; exact (k4.symm.trans List.perm_append_comm).append_left u2)
              obtain ⟨G2, Ua, U2, m2, f2, r2⟩ := ih w2.left t k3 h2
              obtain ⟨m3, st⟩ := m2.frame w2
              refine ⟨G2, ui ++ Ua, U2, (m3.permL ?_).permR (by rw [List.append_assoc ui Ua U2]; exact List.perm_append_comm), Rl.cons (RelD.mono m2.gg st k2) f2, r2⟩
              show ((u2 ++ Ui) ++ ui).Perm (u2 ++ U)
              rw [List.append_assoc]
              exact (List.perm_append_comm.trans k4).append_left u2
            · cases e
          · cases e
theorem wb_ok {os : List OR} : ∀ {vs : List V} {ps env env' : Env} {Up U u : List Addr} {G0 H0 : Hp}, RAs K σ G0 H0 vs os u → RlL K none G H (vs.map some) ps Up → Rl K T G H σ env U → wb os ps env = some env' → ∃ ud U', Rl K T G H σ env' U' ∧ (ud ++ U').Perm (Up ++ U) := by
  induction os with
  | nil =>
    intro vs ps env env' Up U u G0 H0 ra rp r e
    cases ra
    cases rp
    simp only [wb, Option.some.injEq] at e
    subst e
    exact ⟨[], U, r, List.Perm.refl _⟩
  | cons o os ih =>
    intro vs ps env env' Up U u G0 H0 ra rp r e
    cases ra with
    | @cons v _ u1 vs _ u2 h t =>
    cases rp with
    | @emp _ _ ps' _ rp =>
      have e' : wb os ps' env = some env' := by cases o <;> simpa [wb] using e
      exact ih t rp r e'
    | @val _ d m ui _ _ Ui hd rp =>
      cases o with
      | tmp d' m' =>
        simp only [wb] at e
        obtain ⟨ud, U', r', p'⟩ := ih t rp r e
        exact ⟨ui ++ ud, U', r', by rw [List.append_assoc, List.append_assoc]; exact p'.append_left ui⟩
      | slot i =>
        simp only [wb] at e
        split at e
        · rename_i he
          have hv : σ[i]? = some (some v) := h.1
          have z := Rl.put (i := i) hd r he
          rw [set_same hv] at z
          obtain ⟨ud, U', r', p'⟩ := ih t rp z e
          exact ⟨ud, U', r', p'.trans (by rw [List.append_assoc]; exact List.perm_append_comm_assoc Ui ui U)⟩
        · cases e
    | cau hT => cases hT
def fCall (io : List Bool) (F : Env → Rf) (os : List OR) (e : Env) : Rs OR := match prep io os e with
  | some (a, e1) => (match F a with
    | .ok d m ps => (match wb os ps e1 with
      | some e2 => .ok (.tmp d m) e2
      | none => .no)
    | .ex c w ps => (match wb os ps e1 with
      | some e2 => .ex c w e2
      | none => .no)
    | .no => .no)
  | none => .no
theorem cbs_call {io : List Bool} {F : Env → Rf} {n : Nat} {σ : St} {vs : List V} {os : List OR} {Q : VK} (hn : vs.length = n) (w : Wf G H (u ++ U)) (ra : RAs K σ G H vs os u) (rl : Rl K T G H σ env U) (p : Post K T (rE K) W σ G H (u ++ U) (fCall io F os env) Q) : spV K n F vs H Q (WE W σ) := by
  unfold fCall at p
  split at p
  · rename_i a e1 hp
    obtain ⟨G1, Ua, U1, m1, r1, r2⟩ := prep_ok w ra rl hp
    refine ⟨hn, G1, Ua, a, m1.wf.left, r1, ?_⟩
    cases q : F a with
    | no => rw [q] at p; exact p
    | ok d m ps =>
      rw [q] at p
      dsimp only at p
      split at p
      · rename_i e2 hw
        intro v G2 H2 u2 U2 m2 hv r3
        obtain ⟨m3, st⟩ := m2.frame m1.wf
        obtain ⟨Up, kp, pp⟩ := r3
        obtain ⟨ud, U3, r4, p4⟩ := wb_ok ra kp (r2.mono m2.gg st) hw
        have w4 : Wf G2 H2 (ud ++ (u2 ++ U3)) := m3.wf.perm (by
          rw [List.append_assoc]
          exact ((((pp.symm.append_right U1).trans p4.symm).append_left u2)).trans (List.perm_append_comm_assoc u2 ud U3))
        refine p v G2 H2 u2 U3 (m1.trans (m3.trans ((Mv.forget w4).permL ?_))) hv r4
        rw [List.append_assoc]
        exact ((List.perm_append_comm_assoc ud u2 U3)).trans (((p4.trans (pp.append_right U1))).append_left u2)
      · exact p.elim
    | ex c w' ps =>
      rw [q] at p
      dsimp only at p
      split at p
      · rename_i e2 hw
        intro dx v G2 H2 U2 m2 h1 h2 r3
        obtain ⟨m3, st⟩ := m2.frame m1.wf
        obtain ⟨Up, kp, pp⟩ := r3
        obtain ⟨ud, U3, r4, p4⟩ := wb_ok ra kp (r2.mono m2.gg st) hw
        have w4 : Wf G2 H2 (ud ++ (dx :: U3)) := m3.wf.perm (by
          rw [List.cons_append]
          exact (((pp.symm.append_right U1).trans p4.symm).cons dx).trans List.perm_middle.symm)
        refine p dx v G2 H2 U3 (m1.trans (m3.trans ((Mv.forget w4).permL ?_))) h1 h2 r4
        rw [List.cons_append]
        exact List.perm_middle.trans ((p4.trans (pp.append_right U1)).cons dx)
      · exact p.elim
  · exact p.elim
end
end Vs

namespace L2
open PySem PySem.Spec PyProof.Rows
section
variable {X : Cx} {CX : CXT} {k n : Nat} {f C : Addr} {fd : FuncData} {ps ks : List Str} {sp : Sp} {E : St → XK} {x mn : Str} {p pos apos : Pos} {e o : Expr} {es : List Expr} {kws : List Keyword} {ta : TE} {t tk : TA} {g : List Value → List Value → List Value} {gV : List V → List V → List V}
theorem run_callG {pins : List (Addr × Obj)} {σ : St} {H : Hp} {s : Shared} {Q : VK} {us ws : List Value} {vs zs : List V} (F : FnG X.prog X.w X.K X.mg X.base CX k f fd ps sp) (hr : Room k X.A) (hgd : X.A.guards = some []) (hb : KBn X.K fd ps n ks g gV) (hx : PassesAt CX X σ (E σ))
    (I : Inv X pins σ H s) (r : Vals vs us) (rz : Vals zs ws) (l1 : vs.length = n) (l2 : zs.length = ks.length) (h : sp (gV vs zs) H Q (E σ)) : wpAny (model X.prog X.w) X.A (call (.ref f) us (ks.zip ws)) (EP X pins σ Q) X.xe s := by
  refine wpAny_call (codeAny_mono (F.run X.A X.stack s H ⟨us, ks.zip ws⟩ (g us ws) (gV vs zs) Q (E σ) hr hgd I.env0 (hb.to s us ws I.kIn (r.length.symm.trans l1) (rz.length.symm.trans l2)) (hb.rel r rz) h) fun r s' hq => ?_)
  cases r with
  | error e => exact hx pins H s e s' I hq
  | ok fl =>
    cases fl with
    | ret u => exact I.after hq
    | _ => exact False.elim hq
theorem run_mkG {pins : List (Addr × Obj)} {σ : St} {H : Hp} {s : Shared} {Q : VK} {us ws : List Value} {vs zs : List V} (M : Mk X.K C f) (F : FnG X.prog X.w X.K X.mg X.base CX k f fd ps sp) (hr : Room (k + 1) X.A) (hgd : X.A.guards = some []) (hb : KBn X.K fd ps (n + 1) ks g gV)
    (hx : PassesAt CX X σ (E σ)) (I : Inv X pins σ H s) (r : Vals vs us) (rz : Vals zs ws) (l1 : vs.length = n) (l2 : zs.length = ks.length)
    (h : ∀ x dx, H x = none → H dx = none → dx ≠ x → sp (gV (.ref x :: vs) zs) (upd (upd H dx (.own x)) x (.ins C dx [])) (fun v H2 => v = .non ∧ Q (.ref x) H2) (E σ)) :
    wpAny (model X.prog X.w) X.A (call (.ref C) us (ks.zip ws)) (EP X pins σ Q) X.xe s := by
  let z := s.heap.objs.size
  have hq := h (z + 1) z (I.hok.fresh (Nat.le_succ _)) (I.hok.fresh (Nat.le_refl _)) (Nat.ne_of_lt (Nat.lt_succ_self _))
  have I2 := Inv.made (C := C) I
  have r1 : Vals (V.ref (z + 1) :: vs) (Value.ref (z + 1) :: us) := .cons rfl r
  have e1 : (Value.ref (z + 1) :: us).length = n + 1 := r1.length.symm.trans (congrArg Nat.succ l1)
  refine wpAny_call (make_map (f := f) I.kIn M.makes M.init (beq_iff_eq.mp M.fn) (codeAny_mono (F.run _ X.stack _ _ ⟨Value.ref (z + 1) :: us, ks.zip ws⟩ (g (Value.ref (z + 1) :: us) ws) _ _ (E σ) (hr.make C us (ks.zip ws)) hgd
    (I2.env0.make C us (ks.zip ws)) (hb.to _ _ ws I2.kIn e1 (rz.length.symm.trans l2)) (hb.rel r1 rz) hq) fun r s' hq' => ?_))
  cases r with
  | error e => exact hx pins _ _ e s' I2 hq'
  | ok fl =>
    cases fl with
    | ret u =>
      obtain ⟨v, H', I3, rv, ev, q3⟩ := I2.after hq'
      subst ev
      exact ⟨rv, ⟨V.ref (z + 1), H', I3, rfl, q3⟩⟩
    | _ => exact False.elim hq'
theorem pe_fP (F : FnG X.prog X.w X.K X.mg X.base CX k f fd ps sp) (hr : Room k X.A) (hgd : X.A.guards = some []) (hg : Gl X x) (hm : X.mg x = some (.ref f)) (hk : PySem.W.keepIn X.K (.ref f) = true) (hb : KBn X.K fd ps n [] g gV) (hx : ∀ σ, PassesAt CX X σ (E σ))
    (ha : PA X (e :: es) t) (hdb : (x == ("__debug__" : Str)) = false := by decide) (he : starEach (e :: es) X.env = (false, eval e X.env) :: starEach es X.env := by rfl) (hpl : (backTo pos (starEach es X.env)).any (·.1) = false := by rfl) :
    PE X (.Call (.Name x p) (e :: es) [] pos) (tCallKS n 0 sp gV E t tNil) := by
  refine ⟨fun pins s σ H Q I h => ?_⟩
  refine wpAny_Call_Name_kw (ld_glob I hg hm ?_ hdb)
  refine PySem.W.callWith_K (h₀ := X.base) I.ok.mod.kin hk (thn (ha.run pos pins s σ H _ I h) fun us s1 ⟨vs, H1, I1, r, l1, _, q⟩ => ⟨I1.kIn, ?_⟩) he hpl
  exact run_callG (ws := []) (zs := []) F hr hgd hb (hx σ) I1 r .nil l1 rfl q
theorem pe_cP (M : Mk X.K C f) (F : FnG X.prog X.w X.K X.mg X.base CX k f fd ps sp) (hr : Room (k + 1) X.A) (hgd : X.A.guards = some []) (hg : Gl X x) (hm : X.mg x = some (.ref C)) (hb : KBn X.K fd ps (n + 1) [] g gV) (hx : ∀ σ, PassesAt CX X σ (E σ))
    (ha : PA X (e :: es) t) (hdb : (x == ("__debug__" : Str)) = false := by decide) (he : starEach (e :: es) X.env = (false, eval e X.env) :: starEach es X.env := by rfl) (hpl : (backTo pos (starEach es X.env)).any (·.1) = false := by rfl) :
    PE X (.Call (.Name x p) (e :: es) [] pos) (tMakeS C n 0 sp gV E t tNil) := by
  refine ⟨fun pins s σ H Q I h => ?_⟩
  refine wpAny_Call_Name_kw (ld_glob I hg hm ?_ hdb)
  refine PySem.W.callWith_K (h₀ := X.base) I.ok.mod.kin M.kp (thn (ha.run pos pins s σ H _ I h) fun us s1 ⟨vs, H1, I1, r, l1, _, q⟩ => ⟨I1.kIn, ?_⟩) he hpl
  exact run_mkG (ws := []) (zs := []) M F hr hgd hb (hx σ) I1 r .nil l1 rfl q
theorem pe_cK (M : Mk X.K C f) (F : FnG X.prog X.w X.K X.mg X.base CX k f fd ps sp) (hr : Room (k + 1) X.A) (hgd : X.A.guards = some []) (hg : Gl X x) (hm : X.mg x = some (.ref C)) (hb : KBn X.K fd ps 1 ks g gV) (hx : ∀ σ, PassesAt CX X σ (E σ)) (hkw : PK X kws tk)
    (hall : (backToKw pos (keywordEach kws X.env)).all (·.1.isSome) = true := by rfl) (hks : (backToKw pos (keywordEach kws X.env)).filterMap (·.1) = ks := by rfl) (hdb : (x == ("__debug__" : Str)) = false := by decide)
    (hpl : ((backTo pos (starEach [] X.env)).any (·.1) || (backToKw pos (keywordEach kws X.env)).any (·.1.isNone)) = false := by rfl) :
    PE X (.Call (.Name x p) [] kws pos) (tMakeS C 0 ks.length sp gV E tNil tk) := by
  refine ⟨fun pins s σ H Q I h => ?_⟩
  refine wpAny_Call_Name_kw (ld_glob I hg hm ?_ hdb)
  refine PySem.W.callWith_KW0 (h₀ := X.base) I.ok.mod.kin M.kp hall ?_ hpl
  refine thn (hkw.run pos pins s σ H _ I h) fun ws s2 ⟨zs, H2, I2, rz, l1, l2, q2⟩ => ⟨I2.kIn, ?_⟩
  rw [hks]
  exact run_mkG (us := []) (vs := []) M F hr hgd hb (hx σ) I2 .nil rz rfl l2 q2
theorem pe_nP {pl : Sem Bool} (ho : PE X o ta) (c : Cls X.K C) (hm : Meth X.K C mn f) (F : FnG X.prog X.w X.K X.mg X.base CX k f fd ps sp) (hr : Room k X.A) (hgd : X.A.guards = some []) (hb : KBn X.K fd ps (n + 1) [] g gV) (hx : ∀ σ, PassesAt CX X σ (E σ)) (ha : PA X (e :: es) t)
    (hst : starEach (e :: es) X.env = (false, eval e X.env) :: starEach es X.env := by rfl) (hpl : (backTo pos (starEach es X.env)).any (·.1) = false := by rfl)
    (ht : eval (.Call (.Attribute o mn apos) (e :: es) [] pos) X.env = (do
      let ov ← eval o X.env
      standAt apos.atName
      let (f, first) ← holding [ov] (getMethod ov mn pl)
      callWith pos f first (backTo pos (starEach (e :: es) X.env)) (backToKw pos (keywordEach [] X.env))) := by rfl) :
    PE X (.Call (.Attribute o mn apos) (e :: es) [] pos) (tMtS C mn n 0 sp gV E ta t tNil) := by
  refine ⟨fun pins s σ H Q I h => ?_⟩
  refine PySem.W.methodCall_KW (pl := pl) (thn (ho.run pins s σ H _ I h) fun u s1 ⟨x, H1, I1, rx, a, dx, fs, ex, ea, l, q⟩ => ?_) ht
  subst ex
  obtain rfl : u = Value.ref a := rx
  refine getmeth_ok I1 ea c hm l ?_
  refine PySem.W.callWith_K (first := [.ref a]) (h₀ := X.base) I.ok.mod.kin hm.kp (thn (ha.run pos pins s1 σ H1 _ I1 q) fun us s2 ⟨vs, H2, I2, r, l1, _, q2⟩ => ⟨I2.kIn, ?_⟩) hst hpl
  exact run_callG (us := .ref a :: us) (vs := .ref a :: vs) (ws := []) (zs := []) F hr hgd hb (hx σ) I2 (.cons rfl r) .nil (congrArg Nat.succ l1) rfl q2
theorem pe_nK {pl : Sem Bool} (ho : PE X o ta) (c : Cls X.K C) (hm : Meth X.K C mn f) (F : FnG X.prog X.w X.K X.mg X.base CX k f fd ps sp) (hr : Room k X.A) (hgd : X.A.guards = some []) (hb : KBn X.K fd ps 1 ks g gV) (hx : ∀ σ, PassesAt CX X σ (E σ)) (hkw : PK X kws tk)
    (hall : (backToKw pos (keywordEach kws X.env)).all (·.1.isSome) = true := by rfl) (hks : (backToKw pos (keywordEach kws X.env)).filterMap (·.1) = ks := by rfl)
    (hpl : ((backTo pos (starEach [] X.env)).any (·.1) || (backToKw pos (keywordEach kws X.env)).any (·.1.isNone)) = false := by rfl)
    (ht : eval (.Call (.Attribute o mn apos) [] kws pos) X.env = (do
      let ov ← eval o X.env
      standAt apos.atName
      let (f, first) ← holding [ov] (getMethod ov mn pl)
      callWith pos f first (backTo pos (starEach [] X.env)) (backToKw pos (keywordEach kws X.env))) := by rfl) :
    PE X (.Call (.Attribute o mn apos) [] kws pos) (tMtS C mn 0 ks.length sp gV E ta tNil tk) := by
  refine ⟨fun pins s σ H Q I h => ?_⟩
  refine PySem.W.methodCall_KW (pl := pl) (thn (ho.run pins s σ H _ I h) fun u s1 ⟨x, H1, I1, rx, a, dx, fs, ex, ea, l, q⟩ => ?_) ht
  subst ex
  obtain rfl : u = Value.ref a := rx
  refine getmeth_ok I1 ea c hm l ?_
  refine PySem.W.callWith_KW0 (first := [.ref a]) (h₀ := X.base) I.ok.mod.kin hm.kp hall ?_ hpl
  refine thn (hkw.run pos pins s1 σ H1 _ I1 q) fun ws s2 ⟨zs, H2, I2, rz, _, l2, q2⟩ => ⟨I2.kIn, ?_⟩
  rw [hks]
  exact run_callG (us := [.ref a]) (vs := [.ref a]) F hr hgd hb (hx σ) I2 (.cons rfl .nil) rz rfl l2 q2
end
end L2

namespace Vs
open PySem L2
section
variable {K : PySem.W.Frag} {T : CxA} {ro : List Nat} {W : WX} {σ σ1 : St} {G H G1 H1 G2 H2 G' H' : Hp} {U U1 U2 U' u u' R : List Addr} {env : Env}
theorem prep_len {os : List OR} : ∀ {io : List Bool} {e : Env} {r : Env × Env}, prep io os e = some r → os.length = io.length := by
  induction os with
  | nil =>
    intro io e r h
    cases io with
    | nil => rfl
    | cons b io => cases b <;> simp [prep] at h
  | cons o os ih =>
    intro io e r h
    cases io with
    | nil => simp [prep] at h
    | cons b io =>
      rw [List.length_cons, List.length_cons]
      cases b with
      | false =>
        simp only [prep] at h
        split at h
        · split at h
          · rename_i h2; rw [ih h2]
          · cases h
        · cases h
      | true =>
        cases o with
        | tmp d m =>
          simp only [prep] at h
          split at h
          · rename_i h2; rw [ih h2]
          · cases h
        | slot i =>
          simp only [prep] at h
          split at h
          · split at h
            · rename_i h2; rw [ih h2]
            · cases h
          · cases h
theorem RAs.length : ∀ {vs : List V} {os : List OR} {u : List Addr}, RAs K σ G H vs os u → vs.length = os.length
  | _, _, _, .nil => rfl
  | _, _, _, .cons _ t => congrArg (· + 1) (RAs.length t)
theorem call_ok {io : List Bool} {F : Env → Rf} {vs : List V} {os : List OR} {Q : VK} {n : Nat} (hn : io.length = n) (w : Wf G H (u ++ U)) (ra : RAs K σ G H vs os u) (rl : Rl K T G H σ env U) (p : Post K T (rE K) W σ G H (u ++ U) (fCall io F os env) Q) : spV K n F vs H Q (WE W σ) := by
  refine cbs_call ?_ w ra rl p
  unfold fCall at p
  split at p
  · rename_i h
    rw [ra.length, prep_len h, hn]
  · exact p.elim
theorem pick_range {α : Type} (l : List α) : pick (List.range l.length) l = l := by
  unfold pick
  induction l with
  | nil => rfl
  | cons x l ih =>
    rw [List.length_cons, List.range_succ_eq_map, List.filterMap_cons]
    simp only [List.getElem?_cons_zero]
    rw [List.filterMap_map]
    exact congrArg (x :: ·) ih
def fz1 : OR → OR
  | .tmp d _ => .tmp d .fz
  | .slot i => .slot i
def fzAll (os : List OR) : List OR := os.map fz1
theorem RAs.fzAll (s : Le G G') {vs : List V} {os : List OR} {u : List Addr} (k : ∀ a ∈ u, G' a = H a) (h : RAs K σ G H vs os u) : RAs K σ G' H vs (Vs.fzAll os) [] := by
  induction h with
  | nil => exact .nil
  | @cons v o u1 vs os u2 h t ih =>
    have t' := ih fun a ha => k a (by simp [ha])
    have h' : ROr K σ G' H v (fz1 o) [] := by
      cases o with
      | tmp d m => exact .fz (RelD.freeze s (fun a ha => k a (by simp [ha])) h)
      | slot i => exact ⟨h.1, rfl⟩
    exact RAs.cons (u := []) h' t'
theorem RAs.get0 : ∀ {vs : List V} {os : List OR}, RAs K σ G H vs os [] → ∀ j : Nat, (vs[j]? = none ∧ os[j]? = none) ∨ ∃ v o, vs[j]? = some v ∧ os[j]? = some o ∧ ROr K σ G H v o [] := by
  intro vs os h
  generalize hu : ([] : List Addr) = u at h
  induction h with
  | nil => exact fun j => .inl ⟨by simp, by simp⟩
  | @cons v o u1 vs os u2 h t ih =>
    intro j
    have hu' := List.append_eq_nil_iff.mp hu.symm
    obtain ⟨rfl, rfl⟩ := hu'
    cases j with
    | zero => exact .inr ⟨v, o, rfl, rfl, h⟩
    | succ j => simpa using ih rfl j
theorem RAs.pick0 {vs : List V} {os : List OR} (h : RAs K σ G H vs os []) : ∀ idx : List Nat, RAs K σ G H (pick idx vs) (pick idx os) []
  | [] => .nil
  | j :: r => by
    unfold pick
    rcases h.get0 j with ⟨e1, e2⟩ | ⟨v, o, e1, e2, rv⟩
    · rw [List.filterMap_cons_none e1, List.filterMap_cons_none e2]; exact RAs.pick0 h r
    · rw [List.filterMap_cons_some e1, List.filterMap_cons_some e2]; exact RAs.cons (u := []) rv (RAs.pick0 h r)
theorem RAs.app0 : ∀ {vs ws : List V} {os qs : List OR}, RAs K σ G H vs os [] → RAs K σ G H ws qs [] → RAs K σ G H (vs ++ ws) (os ++ qs) [] := by
  intro vs ws os qs h k
  generalize hu : ([] : List Addr) = u at h
  induction h with
  | nil => exact k
  | @cons v o u1 vs os u2 h t ih =>
    obtain ⟨rfl, rfl⟩ := List.append_eq_nil_iff.mp hu.symm
    exact RAs.cons (u := []) h (ih rfl)
theorem ras_lits : ∀ {dvs : List V} {dds : List D}, FzL K G dvs dds → RAs K σ G H dvs (dds.map fun d => .tmp d .fz) []
  | _, _, .nil => .nil
  | _, _, .cons h t => RAs.cons (u := []) (.fz h) (ras_lits t)
theorem snd_cbS {r : St → List V → Hp → VK → Prop} {f : List OR → Env → Rs OR} {ta : TA} {a : SA} (ha : Snd K T (rA K) W ta a)
    (hr : ∀ σ G H vs os u env U Q, Wf G H (u ++ U) → RAs K σ G H vs os u → Rl K T G H σ env U → Post K T (rE K) W σ G H (u ++ U) (f os env) Q → r σ vs H Q) : Snd K T (rE K) W (fun σ H Q => ta σ H fun vs H1 => r σ vs H1 Q) (sCB f a) := fun σ G H env U w rl Q p => by
  refine ha σ G H env U w rl _ (post_bind (u := []) (Mv.refl w) p fun vs os e1 G1 H1 u1 U1 e m1 _ _ h1 r1 => ?_)
  rw [List.nil_append] at m1
  rw [show sCB f a env = f os e1 by unfold sCB; rw [e]; rfl] at p
  refine hr σ G1 H1 vs os u1 e1 U1 Q m1.wf h1 r1 ?_
  cases q : f os e1 with
  | no => rw [q] at p; exact p
  | ok o e2 =>
    rw [q] at p
    exact fun b G2 H2 u2 U2 m2 h2 r2 => p b G2 H2 u2 U2 (m1.trans m2) h2 r2
  | ex c w' e2 =>
    rw [q] at p
    exact fun dx v G2 H2 U2 m2 h2 h3 r2 => p dx v G2 H2 U2 (m1.trans m2) h2 h3 r2
def sCB2 (f : List OR → List OR → Env → Rs OR) (a k : SA) : SE := fun e => (a e).bind fun xs e1 => (k e1).bind fun zs e2 => f xs zs e2
theorem snd_cb2 {r : St → List V → List V → Hp → VK → Prop} {f : List OR → List OR → Env → Rs OR} {ta tk : TA} {a k : SA} (ha : Snd K T (rA K) W ta a) (hk : Snd K T (rA K) W tk k)
    (hr : ∀ σ G H vs os zs qs u u' env U Q, Wf G H ((u ++ u') ++ U) → RAs K σ G H vs os u → RAs K σ G H zs qs u' → Rl K T G H σ env U → Post K T (rE K) W σ G H ((u ++ u') ++ U) (f os qs env) Q → r σ vs zs H Q) :
    Snd K T (rE K) W (fun σ H Q => ta σ H fun vs H1 => tk σ H1 fun zs H2 => r σ vs zs H2 Q) (sCB2 f a k) := fun σ G H env U w rl Q p => by
  refine ha σ G H env U w rl _ (post_bind (u := []) (Mv.refl w) p fun vs os e1 G1 H1 u1 U1 e m1 _ _ h1 r1 => ?_)
  rw [List.nil_append] at m1
  rw [show sCB2 f a k env = ((k e1).bind fun zs e2 => f os zs e2) by unfold sCB2; rw [e]; rfl] at p
  refine hk σ G1 H1 e1 U1 m1.wf.right r1 _ (post_bind m1 p fun zs qs e2 G2 H2 u2 U2 e' m2 g2 st h2 r2 => ?_)
  rw [e'] at p
  have p2 : Post K T (rE K) W σ G H U (f os qs e2) Q := p
  have m3 : Mv G H U G2 H2 ((u1 ++ u2) ++ U2) := m2.permR (by rw [List.append_assoc]; exact List.perm_append_comm_assoc u2 u1 U2)
  refine hr σ G2 H2 vs os zs qs u1 u2 e2 U2 Q m3.wf (h1.mono g2 st) h2 r2 ?_
  cases q : f os qs e2 with
  | no => rw [q] at p2; exact p2
  | ok o e3 => rw [q] at p2; exact fun b G3 H3 u3 U3 m4 h3 r3 => p2 b G3 H3 u3 U3 (m3.trans m4) h3 r3
  | ex c w' e3 => rw [q] at p2; exact fun dx v G3 H3 U3 m4 h3 h4 r3 => p2 dx v G3 H3 U3 (m3.trans m4) h3 h4 r3
def sCall (io : List Bool) (F : Env → Rf) (a : SA) : SE := sCB (fCall io F) a
theorem fcall_len {io : List Bool} {F : Env → Rf} {os : List OR} {Q : VK} (p : Post K T (rE K) W σ G H U (fCall io F os env) Q) : os.length = io.length := by
  unfold fCall at p
  split at p
  · rename_i h; exact prep_len h
  · exact p.elim
theorem snd_call {io : List Bool} {F : Env → Rf} {n : Nat} {t : TA} {a : SA} (hn : io.length = n) (h : Snd K T (rA K) W t a) :
    Snd K T (rE K) W (tCallKS n 0 (spV K n F) (fun vs zs => pick (List.range n) (vs ++ zs)) (WE W) t tNil) (sCall io F a) :=
  snd_cbS (r := fun σ vs H Q => vs.length = n ∧ 0 = 0 ∧ spV K n F (pick (List.range n) (vs ++ [])) H Q (WE W σ)) h fun σ G H vs os u env U Q w ra rl p => by
    have hl : vs.length = n := by rw [ra.length, fcall_len p, hn]
    refine ⟨hl, rfl, ?_⟩
    rw [List.append_nil, ← hl, pick_range, hl]
    exact call_ok hn w ra rl p
def fArr (n m : Nat) (idx : List Nat) (dds : List D) (io : List Bool) (F : Env → Rf) (os qs : List OR) (e : Env) : Rs OR := if os.length = n ∧ qs.length = m then fCall io F (pick idx (fzAll os ++ ((dds.map fun d => .tmp d .fz) ++ fzAll qs))) e else .no
def sCallK (n m : Nat) (idx : List Nat) (dds : List D) (io : List Bool) (F : Env → Rf) (a k : SA) : SE := sCB2 (fArr n m idx dds io F) a k
theorem arr_ok {n m N : Nat} {idx : List Nat} {dds : List D} {dvs : List V} {io : List Bool} {F : Env → Rf} {vs zs : List V} {os qs : List OR} {Q : VK} (hn : io.length = N) (hd : ∀ G, FzL K G dvs dds) (w : Wf G H ((u ++ u') ++ U)) (ra : RAs K σ G H vs os u) (rk : RAs K σ G H zs qs u') (rl : Rl K T G H σ env U)
    (p : Post K T (rE K) W σ G H ((u ++ u') ++ U) (fArr n m idx dds io F os qs env) Q) : vs.length = n ∧ zs.length = m ∧ spV K N F (pick idx (vs ++ (dvs ++ zs))) H Q (WE W σ) := by
  unfold fArr at p
  split at p
  · rename_i hl
    refine ⟨ra.length.trans hl.1, rk.length.trans hl.2, ?_⟩
    obtain ⟨m1, sg, kk⟩ := Mv.freeze w
    have a1 := RAs.fzAll (Le.of sg) (fun a h => kk a (List.mem_append_left _ h)) ra
    have a2 := RAs.fzAll (Le.of sg) (fun a h => kk a (List.mem_append_right _ h)) rk
    have a3 := (a1.app0 ((ras_lits (hd _)).app0 a2)).pick0 idx
    refine call_ok (u := []) (U := U) hn m1.wf a3 (rl.mono (Le.of sg) fun _ _ => rfl) ?_
    cases q : fCall io F (pick idx (fzAll os ++ ((dds.map fun d => .tmp d .fz) ++ fzAll qs))) env with
    | no => rw [q] at p; exact p
    | ok o e3 => rw [q] at p; exact fun b G3 H3 u3 U3 m4 h3 r3 => p b G3 H3 u3 U3 (m1.trans m4) h3 r3
    | ex c w' e3 => rw [q] at p; exact fun dx v G3 H3 U3 m4 h3 h4 r3 => p dx v G3 H3 U3 (m1.trans m4) h3 h4 r3
  · exact p.elim
def insOf (c : Str) (mn : Str) (o : OR) (e : Env) : Bool := match rd o e with
  | some (.ins c' fs) => decide (c' = c) && (fieldIx mn fs).isNone
  | _ => false
def sMeth (c mn : Str) (io : List Bool) (F : Env → Rf) (o : SE) (a : SA) : SE := fun e => (o e).bind fun x e1 => if insOf c mn x e1 then (a e1).bind fun xs e2 => fCall io F (x :: xs) e2 else .no
def sMethK (c mn : Str) (n m : Nat) (idx : List Nat) (dds : List D) (io : List Bool) (F : Env → Rf) (o : SE) (a k : SA) : SE := fun e => (o e).bind fun x e1 => if insOf c mn x e1 then (a e1).bind fun xs e2 => (k e2).bind fun zs e3 => fArr (n + 1) m idx dds io F (x :: xs) zs e3 else .no
theorem look_none {f : Str} : ∀ {fs : List (Str × V)} {ds : List (Str × D)}, FzF K G fs ds → fieldIx f ds = none → fs.lookup f = none
  | _, _, .nil, _ => rfl
  | _, _, @FzF.cons _ _ g v d fs ds h t, e => by
    unfold fieldIx at e
    by_cases q : f = g
    · rw [if_pos q] at e; cases e
    · rw [if_neg q, Option.map_eq_none_iff] at e
      rw [List.lookup_cons, show (f == g) = false from beq_eq_false_iff_ne.mpr q]
      exact look_none t e
theorem insOf_ok {v : V} {c mn : Str} {o : OR} (w : Wf G H (u ++ U)) (h : ROr K σ G H v o u) (r : Rl K T G H σ env U) (e : insOf c mn o env = true) : ∃ a dx fs, v = .ref a ∧ H a = some (.ins (He.ga K c) dx fs) ∧ fs.lookup mn = none := by
  unfold insOf at e
  split at e
  · rename_i c' fs er
    rw [Bool.and_eq_true] at e
    have hc := of_decide_eq_true e.1
    subst hc
    have f := rd_ok w.gh h r er
    cases f with
    | @ins a dx _ vs _ ha ff => exact ⟨a, dx, vs, rfl, ha, look_none ff (Option.isNone_iff_eq_none.mp e.2)⟩
  · cases e
theorem snd_meth {c mn : Str} {io : List Bool} {F : Env → Rf} {n : Nat} {to : TE} {t : TA} {o : SE} {a : SA} (hn : io.length = n + 1) (ho : Snd K T (rE K) W to o) (h : Snd K T (rA K) W t a) :
    Snd K T (rE K) W (tMtS (He.ga K c) mn n 0 (spV K (n + 1) F) (fun vs zs => pick (List.range (n + 1)) (vs ++ zs)) (WE W) to t tNil) (sMeth c mn io F o a) := fun σ G H env U w rl Q p => by
  refine ho σ G H env U w rl _ (post_bind (u := []) (Mv.refl w) p fun x ox e1 G1 H1 u1 U1 e m1 _ _ h1 r1 => ?_)
  rw [List.nil_append] at m1
  rw [show sMeth c mn io F o a env = (if insOf c mn ox e1 then (a e1).bind fun xs e2 => fCall io F (ox :: xs) e2 else .no) by unfold sMeth; rw [e]; rfl] at p
  split at p
  · rename_i hi
    obtain ⟨b, dx, fs, rfl, hb, hl⟩ := insOf_ok m1.wf h1 r1 hi
    refine ⟨b, dx, fs, rfl, hb, hl, ?_⟩
    refine h σ G1 H1 e1 U1 m1.wf.right r1 _ (post_bind m1 p fun vs os e2 G2 H2 u2 U2 e' m2 g2 st h2 r2 => ?_)
    rw [e'] at p
    have p2 : Post K T (rE K) W σ G H U (fCall io F (ox :: os) e2) Q := p
    have m3 : Mv G H U G2 H2 ((u1 ++ u2) ++ U2) := m2.permR (by rw [List.append_assoc]; exact List.perm_append_comm_assoc u2 u1 U2)
    have ra : RAs K σ G2 H2 (.ref b :: vs) (ox :: os) (u1 ++ u2) := .cons (h1.mono g2 st) h2
    have hl2 : (V.ref b :: vs).length = n + 1 := by rw [ra.length, fcall_len p2, hn]
    refine ⟨by simpa using hl2, rfl, ?_⟩
    show spV K (n + 1) F (pick (List.range (n + 1)) ((V.ref b :: vs) ++ [])) H2 Q (WE W σ)
    rw [List.append_nil, ← hl2, pick_range, hl2]
    refine call_ok hn m3.wf ra r2 ?_
    cases q : fCall io F (ox :: os) e2 with
    | no => rw [q] at p2; exact p2
    | ok o e3 => rw [q] at p2; exact fun b G3 H3 u3 U3 m4 h3 r3 => p2 b G3 H3 u3 U3 (m3.trans m4) h3 r3
    | ex c w' e3 => rw [q] at p2; exact fun dx v G3 H3 U3 m4 h3 h4 r3 => p2 dx v G3 H3 U3 (m3.trans m4) h3 h4 r3
  · exact p.elim
theorem snd_methK {c mn : Str} {n m N : Nat} {idx : List Nat} {dds : List D} {dvs : List V} {io : List Bool} {F : Env → Rf} {to : TE} {t tk : TA} {o : SE} {a k : SA} (hn : io.length = N) (hd : ∀ G, FzL K G dvs dds) (ho : Snd K T (rE K) W to o) (h : Snd K T (rA K) W t a) (hk : Snd K T (rA K) W tk k) :
    Snd K T (rE K) W (tMtS (He.ga K c) mn n m (spV K N F) (fun vs zs => pick idx (vs ++ (dvs ++ zs))) (WE W) to t tk) (sMethK c mn n m idx dds io F o a k) := fun σ G H env U w rl Q p => by
  refine ho σ G H env U w rl _ (post_bind (u := []) (Mv.refl w) p fun x ox e1 G1 H1 u1 U1 e m1 _ _ h1 r1 => ?_)
  rw [List.nil_append] at m1
  rw [show sMethK c mn n m idx dds io F o a k env = (if insOf c mn ox e1 then (a e1).bind fun xs e2 => (k e2).bind fun zs e3 => fArr (n + 1) m idx dds io F (ox :: xs) zs e3 else .no) by unfold sMethK; rw [e]; rfl] at p
  split at p
  · rename_i hi
    obtain ⟨b, dx, fs, rfl, hb, hl⟩ := insOf_ok m1.wf h1 r1 hi
    refine ⟨b, dx, fs, rfl, hb, hl, ?_⟩
    refine h σ G1 H1 e1 U1 m1.wf.right r1 _ (post_bind m1 p fun vs os e2 G2 H2 u2 U2 e' m2 g2 st h2 r2 => ?_)
    rw [e'] at p
    have p2 : Post K T (rE K) W σ G H U ((k e2).bind fun zs e3 => fArr (n + 1) m idx dds io F (ox :: os) zs e3) Q := p
    have m3 : Mv G H U G2 H2 ((u1 ++ u2) ++ U2) := m2.permR (by rw [List.append_assoc]; exact List.perm_append_comm_assoc u2 u1 U2)
    have ra : RAs K σ G2 H2 (.ref b :: vs) (ox :: os) (u1 ++ u2) := .cons (h1.mono g2 st) h2
    refine hk σ G2 H2 e2 U2 m3.wf.right r2 _ (post_bind m3 p2 fun zs qs e3 G3 H3 u3 U3 e'' m4 g3 st3 h3 r3 => ?_)
    rw [e''] at p2
    have p3 : Post K T (rE K) W σ G H U (fArr (n + 1) m idx dds io F (ox :: os) qs e3) Q := p2
    have m5 : Mv G H U G3 H3 (((u1 ++ u2) ++ u3) ++ U3) := m4.permR (by rw [List.append_assoc (u1 ++ u2) u3 U3]; exact List.perm_append_comm_assoc u3 (u1 ++ u2) U3)
    have z := arr_ok (idx := idx) (dvs := dvs) (n := n + 1) (m := m) hn hd m5.wf (ra.mono g3 st3) h3 r3 (by
      cases q : fArr (n + 1) m idx dds io F (ox :: os) qs e3 with
      | no => rw [q] at p3; exact p3
      | ok o e4 => rw [q] at p3; exact fun b G4 H4 u4 U4 m6 h4 r4 => p3 b G4 H4 u4 U4 (m5.trans m6) h4 r4
      | ex c w' e4 => rw [q] at p3; exact fun dx v G4 H4 U4 m6 h4 h5 r4 => p3 dx v G4 H4 U4 (m5.trans m6) h4 h5 r4)
    exact ⟨by simpa using z.1, z.2.1, z.2.2⟩
  · exact p.elim
def fMake (c : Str) (io : List Bool) (F : Env → Rf) (os : List OR) (e : Env) : Rs OR := match prep io (.tmp (.ins c []) (.nd true []) :: os) e with
  | some (a, e1) => (match F a with
    | .ok .non _ (some (.val d m) :: ps) => (match wb os ps e1 with
      | some e2 => .ok (.tmp d m) e2
      | none => .no)
    | .ex x w (_ :: ps) => (match wb os ps e1 with
      | some e2 => .ex x w e2
      | none => .no)
    | _ => .no)
  | none => .no
theorem make_ok {c : Str} {io : List Bool} {F : Env → Rf} {vs : List V} {os : List OR} {Q : VK} {n : Nat} {x dx : Addr} (hn : io.length = n) (hx : H x = none) (hdx : H dx = none) (hne : dx ≠ x) (w : Wf G H (u ++ U)) (ra : RAs K σ G H vs os u) (rl : Rl K T G H σ env U) (p : Post K T (rE K) W σ G H (u ++ U) (fMake c io F os env) Q) :
    spV K n F (.ref x :: vs) (upd (upd H dx (.own x)) x (.ins (He.ga K c) dx [])) (fun v H2 => v = .non ∧ Q (.ref x) H2) (WE W σ) := by
  have ma : Mv G H (u ++ U) G (upd H dx (.own x)) (dx :: (u ++ U)) := Mv.newO w hdx
  have hx2 : upd H dx (.own x) x = none := by rw [upd_ne (fun z => hne z.symm)]; exact hx
  have mb : Mv G (upd H dx (.own x)) (dx :: (u ++ U)) G (upd (upd H dx (.own x)) x (.ins (He.ga K c) dx [])) (x :: dx :: (u ++ U)) := Mv.newO ma.wf hx2
  have mc := ma.trans mb
  have st : ∀ a ∈ u ++ U, upd (upd H dx (.own x)) x (.ins (He.ga K c) dx []) a = H a := fun a ha => by
    rw [upd_ne (fun z => by rw [z] at ha; exact w.fresh hx ha), upd_ne (fun z => by rw [z] at ha; exact w.fresh hdx ha)]
  have self : RelD K G (upd (upd H dx (.own x)) x (.ins (He.ga K c) dx [])) (.ref x) (.ins c []) (.nd true []) [x, dx] := RelD.ins (u := []) upd_same (by rw [upd_ne hne, upd_same]) (.fz .nil)
  have ra2 : RAs K σ G (upd (upd H dx (.own x)) x (.ins (He.ga K c) dx [])) (.ref x :: vs) (.tmp (.ins c []) (.nd true []) :: os) ([x, dx] ++ u) := .cons self (ra.mono (Le.refl G) fun a ha => st a (List.mem_append_left _ ha))
  have rl2 := rl.mono (Le.refl G) fun a ha => st a (List.mem_append_right _ ha)
  have w2 : Wf G (upd (upd H dx (.own x)) x (.ins (He.ga K c) dx [])) (([x, dx] ++ u) ++ U) := by rw [List.append_assoc]; exact mc.wf
  unfold fMake at p
  split at p
  · rename_i a e1 hp
    obtain ⟨G1, Ua, U1, m1, r1, r2⟩ := prep_ok w2 ra2 rl2 hp
    have hl : (V.ref x :: vs).length = n := by rw [ra2.length, prep_len hp, hn]
    refine ⟨hl, G1, Ua, a, m1.wf.left, r1, ?_⟩
    have m01 : Mv G H (u ++ U) G1 _ (Ua ++ U1) := mc.trans (by rw [List.append_assoc] at m1; exact m1)
    split at p
    · rename_i mm d m ps hF
      rw [hF]
      split at p
      · rename_i e2 hw
        intro v G2 H2 u2 U2 m2 hv r3
        obtain ⟨m3, st3⟩ := m2.frame m1.wf
        obtain ⟨Up, kp, pp⟩ := r3
        cases hv with
        | fz hv =>
        cases hv
        refine ⟨rfl, ?_⟩
        cases kp with
        | @val _ _ _ ui _ _ Ui hd kp =>
          obtain ⟨ud, U3, r4, p4⟩ := wb_ok ra kp (r2.mono m2.gg st3) hw
          have pm : (ud ++ (ui ++ U3)).Perm (([] ++ U2) ++ U1) := by
            rw [List.nil_append]
            refine (List.perm_append_comm_assoc ud ui U3).trans ?_
            refine (p4.append_left ui).trans ?_
            rw [← List.append_assoc]
            exact pp.append_right U1
          exact p (.ref x) G2 H2 ui U3 (m01.trans (m3.trans ((Mv.forget (m3.wf.perm pm.symm)).permL pm))) hd r4
      · exact p.elim
    · rename_i xx ww p0 ps hF
      rw [hF]
      split at p
      · rename_i e2 hw
        intro dx' v G2 H2 U2 m2 h1 h2 r3
        obtain ⟨m3, st3⟩ := m2.frame m1.wf
        obtain ⟨Up, kp, pp⟩ := r3
        have fin : ∀ {ui Ui : List Addr}, RlL K none G2 H2 (vs.map some) ps Ui → (ui ++ Ui).Perm Up → WE W σ (.ref (He.ga K xx)) (some dx') H2 := fun {ui Ui} kp pu => by
          obtain ⟨ud, U3, r4, p4⟩ := wb_ok ra kp (r2.mono m2.gg st3) hw
          have pm : ((ui ++ ud) ++ (dx' :: U3)).Perm ((dx' :: U2) ++ U1) := by
            refine List.perm_middle.trans ?_
            rw [List.cons_append, List.append_assoc]
            refine ((p4.append_left ui).trans ?_).cons dx'
            rw [← List.append_assoc]
            exact (pu.trans pp).append_right U1
          exact p dx' v G2 H2 U3 (m01.trans (m3.trans ((Mv.forget (m3.wf.perm pm.symm)).permL pm))) h1 h2 r4
        cases kp with
        | emp kp => exact fin (ui := []) kp (List.Perm.refl _)
        | val hd kp => exact fin kp (List.Perm.refl _)
        | cau hT => cases hT
      · exact p.elim
    · exact p.elim
  · exact p.elim
def fMakeK (c : Str) (n m : Nat) (idx : List Nat) (dds : List D) (io : List Bool) (F : Env → Rf) (os qs : List OR) (e : Env) : Rs OR := if os.length = n ∧ qs.length = m then fMake c io F (pick idx (fzAll os ++ ((dds.map fun d => .tmp d .fz) ++ fzAll qs))) e else .no
def sMake (c : Str) (io : List Bool) (F : Env → Rf) (a : SA) : SE := sCB (fMake c io F) a
def sMakeK (c : Str) (n m : Nat) (idx : List Nat) (dds : List D) (io : List Bool) (F : Env → Rf) (a k : SA) : SE := sCB2 (fMakeK c n m idx dds io F) a k
theorem snd_makeK {c : Str} {n m N : Nat} {idx : List Nat} {dds : List D} {dvs : List V} {io : List Bool} {F : Env → Rf} {t tk : TA} {a k : SA} (hn : io.length = N) (hd : ∀ G, FzL K G dvs dds) (h : Snd K T (rA K) W t a) (hk : Snd K T (rA K) W tk k) :
    Snd K T (rE K) W (tMakeS (He.ga K c) n m (spV K N F) (fun vs zs => pick (0 :: idx.map (· + 1)) (vs ++ (dvs ++ zs))) (WE W) t tk) (sMakeK c n m idx dds io F a k) :=
  snd_cb2 (r := fun σ vs zs H Q => vs.length = n ∧ zs.length = m ∧ ∀ x dx, H x = none → H dx = none → dx ≠ x → spV K N F (pick (0 :: idx.map (· + 1)) ((.ref x :: vs) ++ (dvs ++ zs))) (upd (upd H dx (.own x)) x (.ins (He.ga K c) dx [])) (fun v H3 => v = .non ∧ Q (.ref x) H3) (WE W σ)) h hk fun σ G H vs os zs qs u u' env U Q w ra rk rl p => by
    unfold fMakeK at p
    split at p
    · rename_i hl
      refine ⟨ra.length.trans hl.1, rk.length.trans hl.2, fun x dx hx hdx hne => ?_⟩
      obtain ⟨m1, sg, kk⟩ := Mv.freeze w
      have a1 := RAs.fzAll (Le.of sg) (fun a h => kk a (List.mem_append_left _ h)) ra
      have a2 := RAs.fzAll (Le.of sg) (fun a h => kk a (List.mem_append_right _ h)) rk
      have a3 := (a1.app0 ((ras_lits (hd _)).app0 a2)).pick0 idx
      have ep : pick (0 :: idx.map (· + 1)) ((V.ref x :: vs) ++ (dvs ++ zs)) = V.ref x :: pick idx (vs ++ (dvs ++ zs)) := by
        unfold pick
        rw [List.filterMap_cons, List.filterMap_map]
        rfl
      rw [ep]
      refine make_ok (u := []) (U := U) hn hx hdx hne m1.wf a3 (rl.mono (Le.of sg) fun _ _ => rfl) ?_
      cases q : fMake c io F (pick idx (fzAll os ++ ((dds.map fun d => .tmp d .fz) ++ fzAll qs))) env with
      | no => rw [q] at p; exact p
      | ok o e3 => rw [q] at p; exact fun b G3 H3 u3 U3 m4 h3 r3 => p b G3 H3 u3 U3 (m1.trans m4) h3 r3
      | ex c w' e3 => rw [q] at p; exact fun dx v G3 H3 U3 m4 h3 h4 r3 => p dx v G3 H3 U3 (m1.trans m4) h3 h4 r3
    · exact p.elim
end
end Vs

namespace Vs
open PySem L2
section
variable {K : PySem.W.Frag} {T : CxA} {ro : List Nat} {W W' : WX} {σ σ1 : St} {G H G1 H1 G2 H2 G' H' : Hp} {U U1 U2 U' u u' R : List Addr} {env : Env}
def wipeE (e : Env) : List Nat → Env
  | [] => e
  | v :: vs => (wipeE e vs).set v none
def restE (e0 e : Env) : List Nat → Env
  | [] => e
  | v :: vs => (restE e0 e vs).set v (e0.getD v none)
def okV (vs : List Nat) (e : Env) : Bool := vs.all fun i => match e[i]? with
  | some none => true
  | some (some (.val _ .fz)) => true
  | _ => false
theorem RlL.any : ∀ {σ : St} {env : Env} {U : List Addr} {i : Nat} (x : Option V), RlL K T G H σ env U → env[i]? = some none → RlL K T G H (σ.set i x) env U
  | _, _, _, i, x, .nil, e => by simp at e
  | _, _, _, 0, x, .emp r, e => .emp r
  | _, _, _, i + 1, x, .emp r, e => .emp (RlL.any x r (by simpa using e))
  | _, _, _, 0, x, .val h r, e => by simp at e
  | _, _, _, i + 1, x, .val h r, e => .val h (RlL.any x r (by simpa using e))
  | _, _, _, 0, x, .cau _ _ _ r, e => by simp at e
  | _, _, _, i + 1, x, .cau h1 h2 h3 r, e => .cau h1 h2 h3 (RlL.any x r (by simpa using e))
theorem Rl.any {i : Nat} (x : Option V) (r : Rl K T G H σ env U) (e : env[i]? = some none) : Rl K T G H (σ.set i x) env U := let ⟨U0, h, p⟩ := r; ⟨U0, h.any x e, p⟩
theorem wipeE_length (e : Env) : ∀ vs : List Nat, (wipeE e vs).length = e.length
  | [] => rfl
  | v :: vs => by rw [wipeE, List.length_set, wipeE_length e vs]
theorem wipeE_out {e : Env} {i : Nat} : ∀ {vs : List Nat}, i ∉ vs → (wipeE e vs)[i]? = e[i]?
  | [], _ => rfl
  | v :: vs, h => by
    rw [wipeE, List.getElem?_set_ne (fun z => h (by rw [z]; simp)), wipeE_out (fun z => h (List.mem_cons_of_mem _ z))]
theorem wipeE_in {e : Env} {i : Nat} : ∀ {vs : List Nat}, i ∈ vs → i < e.length → (wipeE e vs)[i]? = some none
  | v :: vs, h, hi => by
    rw [wipeE]
    by_cases q : v = i
    · subst q
      rw [List.getElem?_set_self (by rw [wipeE_length]; exact hi)]
    · rw [List.getElem?_set_ne q]
      exact wipeE_in (by rcases List.mem_cons.mp h with h | h; exact absurd h.symm q; exact h) hi
def Kept (K : PySem.W.Frag) (G : Hp) (σ : St) (env : Env) (i : Nat) : Prop := env[i]? = some none ∨ ∃ v d, env[i]? = some (some (.val d .fz)) ∧ σ[i]? = some (some v) ∧ Fz K G v d
theorem Kept.mono {i : Nat} (s : Le G G') (h : Kept K G σ env i) : Kept K G' σ env i := h.imp id fun ⟨v, d, a, b, c⟩ => ⟨v, d, a, b, c.mono K s⟩
theorem kept_of {i : Nat} {vs : List Nat} (r : Rl K T G H σ env U) (h : okV vs env = true) (m : i ∈ vs) : Kept K G σ env i := by
  have z := List.all_eq_true.mp h i m
  split at z
  · rename_i e; exact .inl e
  · rename_i d e
    obtain ⟨v, u, U', h1, h2, _, _⟩ := r.takeV e
    cases h2 with
    | fz f => exact .inr ⟨v, d, e, h1, f⟩
  · cases z
theorem Rl.unset {i : Nat} (x : Option V) (r : Rl K T G H σ env U) (h : Kept K G σ env i) : Rl K T G H (σ.set i x) (env.set i none) U := by
  rcases h with e | ⟨v, d, e, _, _⟩
  · rw [set_same e]; exact r.any x e
  · obtain ⟨v', u, U', h1, h2, h3, h4⟩ := r.takeV e
    cases h2 with
    | fz f =>
      have r2 := h3.perm (U' := U) (by simpa using h4)
      exact r2.any x (by rw [List.getElem?_set_self (get_lt e)])
theorem wipe_get {σ : St} {vs : List Nat} {i : Nat} (h : i ∉ vs) : (wipe σ vs)[i]? = σ[i]? := L2.wipe_out h
theorem Rl.wiped : ∀ {vs : List Nat}, vs.Nodup → Rl K T G H σ env U → (∀ i ∈ vs, Kept K G σ env i) → Rl K T G H (wipe σ vs) (wipeE env vs) U
  | [], _, r, _ => r
  | v :: vs, nd, r, h => by
    have nd' := List.nodup_cons.mp nd
    have ih := Rl.wiped nd'.2 r fun i m => h i (List.mem_cons_of_mem _ m)
    refine ih.unset none ?_
    rcases h v (by simp) with e | ⟨x, d, e, a, b⟩
    · exact .inl (by rw [wipeE_out nd'.1]; exact e)
    · exact .inr ⟨x, d, by rw [wipeE_out nd'.1]; exact e, by rw [wipe_get nd'.1]; exact a, b⟩
theorem restE_out {e0 e : Env} {i : Nat} : ∀ {vs : List Nat}, i ∉ vs → (restE e0 e vs)[i]? = e[i]?
  | [], _ => rfl
  | v :: vs, h => by
    rw [restE, List.getElem?_set_ne (fun z => h (by rw [z]; simp)), restE_out (fun z => h (List.mem_cons_of_mem _ z))]
theorem Rl.restored {e : Env} : ∀ {vs : List Nat}, vs.Nodup → Rl K T G H (wipe σ vs) e U → (∀ i ∈ vs, e[i]? = some none) → (∀ i ∈ vs, Kept K G σ env i) → Rl K T G H σ (restE env e vs) U
  | [], _, r, _, _ => r
  | v :: vs, nd, r, hn, h => by
    have nd' := List.nodup_cons.mp nd
    have r1 : Rl K T G H (wipe σ vs) e U := by
      have z := r.any (i := v) (((wipe σ vs)[v]?).join) (hn v (by simp))
      have lv : v < (wipe σ vs).length := by
        have := get_lt (hn v (by simp))
        have l := r.length
        rw [wipe_length] at l ⊢
        omega
      rw [show wipe σ (v :: vs) = (wipe σ vs).set v none from rfl, List.set_set, set_same] at z
      · exact z
      · rw [List.getElem?_eq_getElem lv]; simp
    have ih := Rl.restored nd'.2 r1 (fun i m => hn i (List.mem_cons_of_mem _ m)) fun i m => h i (List.mem_cons_of_mem _ m)
    have ev : (restE env e vs)[v]? = some none := by rw [restE_out nd'.1]; exact hn v (by simp)
    rw [restE]
    rcases h v (by simp) with e0 | ⟨x, d, e0, a, b⟩
    · rw [List.getD_eq_getElem?_getD, e0, show (some none : Option (Option Slt)).getD none = none from rfl]
      rw [set_same ev]; exact ih
    · rw [List.getD_eq_getElem?_getD, e0]
      have z := Rl.put (i := v) (.fz b) ih ev
      rw [set_same a] at z
      exact z
theorem wipe_eq {σ σ' : St} {vs : List Nat} (hl : σ'.length = σ.length) (h : ∀ i, i < σ.length → i ∉ vs → σ'[i]? = σ[i]?) : wipe σ' vs = wipe σ vs := by
  apply List.ext_getElem?
  intro i
  by_cases m : i ∈ vs
  · have key : ∀ {τ : St} {vs : List Nat}, i ∈ vs → (wipe τ vs)[i]? = if i < τ.length then some none else none := by
      intro τ vs m
      induction vs with
      | nil => cases m
      | cons v vs ih =>
        rw [wipe]
        by_cases q : v = i
        · subst q
          by_cases lt : v < τ.length
          · rw [if_pos lt, List.getElem?_set_self (by rw [wipe_length]; exact lt)]
          · rw [if_neg lt, List.getElem?_eq_none (by rw [List.length_set, wipe_length]; omega)]
        · rw [List.getElem?_set_ne q]
          exact ih (by rcases List.mem_cons.mp m with z | z; exact absurd z.symm q; exact z)
    rw [key m, key m, hl]
  · rw [wipe_get m, wipe_get m]
    by_cases lt : i < σ.length
    · exact h i lt m
    · rw [List.getElem?_eq_none (by omega), List.getElem?_eq_none (by omega)]
def roC (N : Nat) (vs : List Nat) : List Nat := (List.range N).filter fun i => decide (i ∉ vs)
theorem ro_wipe {N : Nat} {vs : List Nat} {σ σ' : St} (hN : σ.length ≤ N) (o : Ro (roC N vs) σ σ') (hl : σ'.length = σ.length) : wipe σ' vs = wipe σ vs := wipe_eq hl fun i hi hm => o i (by
  unfold roC
  rw [List.mem_filter, List.mem_range]
  exact ⟨by omega, decide_eq_true hm⟩)
theorem wipe_wipe {σ : St} {vs : List Nat} : wipe (wipe σ vs) vs = wipe σ vs := wipe_eq (wipe_length σ vs) fun i hi hm => wipe_get hm
theorem Rl.wipeAll : ∀ (vs : List Nat), Rl K T G H σ env U → ∃ ud U', Rl K T G H (wipe σ vs) (wipeE env vs) U' ∧ (ud ++ U').Perm U
  | [], r => ⟨[], U, r, List.Perm.refl _⟩
  | v :: vs, r => by
    obtain ⟨ud, U', r1, p1⟩ := Rl.wipeAll vs r
    obtain ⟨ud2, U2, r2, p2⟩ := r1.drop v none
    exact ⟨ud ++ ud2, U2, r2, by rw [List.append_assoc]; exact (p2.append_left ud).trans p1⟩
def lcL (vs : List Nat) (f : SG) (tt : ST) (te : SE) : List D → List D → Env → Rs (List D)
  | [], acc, e => .ok acc e
  | d :: ds, acc, e => match f d .fz e with
    | none => .no
    | some e1 => (match tt e1 with
      | .ok true e2 => (match te e2 with
        | .ok o e3 => (match cut o e3 with
          | some (z, e4) => if acc.length < lim then lcL vs f tt te ds (acc ++ [z]) (wipeE e4 vs) else .no
          | none => .no)
        | _ => .no)
      | .ok false e2 => lcL vs f tt te ds acc (wipeE e2 vs)
      | _ => .no)
def sLc (N : Nat) (vs : List Nat) (s : Env → Rs (List D)) (f : SG) (tt : ST) (te : SE) : SE := fun e => (s e).bind fun ds e1 => if okV vs e1 && decide (e1.length ≤ N) then (match lcL vs f tt te ds [] (wipeE e1 vs) with
  | .ok acc e2 => .ok (.tmp (.lst acc) (.nd true [])) (restE e1 e2 vs)
  | _ => .no) else .no
def LcK (K : PySem.W.Frag) (T : CxA) (σ : St) (vs : List Nat) (D' : Addr) (Q : VK) (G1 H1 : Hp) (U1 : List Addr) (r : Rs (List D)) : Prop := match r with
  | .ok acc e => ∀ G' H' U' vacc, Mv G1 H1 U1 G' H' (D' :: U') → H' D' = some (.lst vacc) → FzL K G' vacc acc → Rl K T G' H' (wipe σ vs) e U' → (∀ i ∈ vs, e[i]? = some none) → Q (.ref D') H'
  | _ => False
def sLcK (N : Nat) (vs : List Nat) (f : SG) (tt : ST) (te : SE) (ds : List D) (e1 : Env) : Rs OR := if okV vs e1 && decide (e1.length ≤ N) then (match lcL vs f tt te ds [] (wipeE e1 vs) with
  | .ok acc e2 => .ok (.tmp (.lst acc) (.nd true [])) (restE e1 e2 vs)
  | _ => .no) else .no
def tLcA (g : TG) (tt : TT) (te : TE) (vs : List Nat) (J : It) (σ : St) (H1 : Hp) (Q : VK) : Prop := tLc (fun _ H R => R J H) g tt te vs σ H1 Q
theorem Post.from {α β : Type} {rel : RelB α β} {r : Rs α} {Q : β → Hp → Prop} (m : Mv G H U G1 H1 U1) (p : Post K T rel W σ G H U r Q) : Post K T rel W σ G1 H1 U1 r Q := by
  cases r with
  | no => exact p
  | ok a e => exact fun b G' H' u U' m' h' r' => p b G' H' u U' (m.trans m') h' r'
  | ex c w e => exact fun dx v G' H' U' m' h1 h2 r' => p dx v G' H' U' (m.trans m') h1 h2 r'
theorem lc_after {N : Nat} {vs : List Nat} {g : TG} {tt : TT} {te : TE} {f : SG} {st : ST} {se : SE} (nd : vs.Nodup) (hg : SndG K T (roC N vs) g f) (ht : Snd K T rT W' tt st) (he : Snd K T (rE K) W' te se)
    (σ : St) (G1 H1 : Hp) (J : It) (ds : List D) (e1 : Env) (U1 : List Addr) (Q : VK) (w1 : Wf G1 H1 U1) (hJ : rI K σ G1 H1 J ds []) (r1 : Rl K T G1 H1 σ e1 U1) (p : Post K T (rE K) W σ G1 H1 U1 (sLcK N vs f st se ds e1) Q) : tLcA g tt te vs J σ H1 Q := by
  obtain ⟨_, Gd, Y, wk, hG, hY⟩ := hJ
  unfold sLcK at p
  show tLc (fun _ H R => R J H) g tt te vs σ H1 Q
  split at p
  · rename_i hok
    rw [Bool.and_eq_true] at hok
    have hN : e1.length ≤ N := of_decide_eq_true hok.2
    have kept : ∀ i ∈ vs, Kept K G1 σ e1 i := fun i m => kept_of r1 hok.1 m
    have hlt : ∀ i ∈ vs, i < e1.length := fun i m => by
      rcases kept i m with z | ⟨_, _, z, _, _⟩
      · exact get_lt z
      · exact get_lt z
    intro D' hD
    have mD := Mv.newO w1 (o := .lst []) hD
    have rw0 := Rl.wiped nd r1 kept
    have stD : ∀ a ∈ U1, upd H1 D' (.lst []) a = H1 a := fun a ha => upd_ne fun z => by rw [z] at ha; exact w1.fresh hD ha
    -- the end
    have hK : LcK K T σ vs D' Q G1 H1 U1 (lcL vs f st se ds [] (wipeE e1 vs)) := by
      cases q : lcL vs f st se ds [] (wipeE e1 vs) with
      | no => rw [q] at p; exact p
      | ex c w' e2 => rw [q] at p; exact p
      | ok acc e2 =>
        rw [q] at p
        intro G' H' U' vacc m' hd fa r' hn
        exact p (.ref D') G' H' [D'] U' (m') (.lst hd (.fz fa)) (Rl.restored nd r' hn fun i m => (kept i m).mono m'.gg)
    clear p
    have lenW : ∀ {σ2 : St} {e2 : Env} {G2 H2 : Hp} {U2 : List Addr}, Rl K T G2 H2 σ2 e2 U2 → wipe σ2 vs = wipe σ vs → e2.length = e1.length := fun {σ2 e2 G2 H2 U2} r2 hw => by
      have a := r2.length
      have b := r1.length
      have c := congrArg List.length hw
      rw [wipe_length, wipe_length] at c
      omega
    refine lc_it wk (fun i H' => ∃ G' U' e' acc vacc, Mv G1 H1 U1 G' H' (D' :: U') ∧ H' D' = some (.lst vacc) ∧ FzL K G' vacc acc ∧ Rl K T G' H' (wipe σ vs) e' U' ∧ (∀ i ∈ vs, e'[i]? = some none) ∧ LcK K T σ vs D' Q G1 H1 U1 (lcL vs f st se (ds.drop i) acc e'))
      ⟨G1, U1, wipeE e1 vs, [], [], mD, upd_same, .nil, rw0.mono (Le.refl _) stD, fun i m => wipeE_in m (hlt i m), by simpa using hK⟩ (fun i H' _ ⟨G', U', e', acc, vacc, m', _⟩ => hG G' H' ⟨m'.gg, m'.fk⟩ m'.wf.gh) ?_ ?_
    · rintro i x H' H'' hi ⟨G', U', e', acc, vacc, m', hd, fa, r', hn, k'⟩ y
      obtain ⟨d, hd0⟩ : ∃ d, ds[i]? = some d := ⟨ds[i], by simp [hi]⟩
      obtain ⟨G2, m2, fx, stt⟩ := hY i d G' H' (D' :: U') x H'' hd0 ⟨m'.gg, m'.fk⟩ m'.wf y
      have hdr : ds.drop i = d :: ds.drop (i + 1) := by
        rw [List.drop_eq_getElem_cons hi]
        have : ds[i] = d := by
          have z := hd0
          rw [List.getElem?_eq_getElem hi] at z
          exact Option.some.inj z
        rw [this]
      rw [hdr, lcL] at k'
      cases qf : f d .fz e' with
      | none => rw [qf] at k'; exact k'.elim
      | some e2 =>
        rw [qf] at k'
        dsimp only at k'
        have hd2 : H'' D' = some (.lst vacc) := (stt D' (by simp)).trans hd
        have wU : Wf G2 H'' (U' ++ [D']) := m2.wf.perm (List.perm_append_comm (l₁ := [D']))
        refine hg (wipe σ vs) G2 H'' x d .fz [] e' U' e2 wU.left (.fz fx) (r'.mono m2.gg fun a ha => stt a (by simp [ha])) qf _ fun σ3 U3 m3 r3 o3 l3 => ?_
        have hw3 : wipe σ3 vs = wipe σ vs := by
          rw [ro_wipe (N := N) (by rw [r'.length, lenW r' wipe_wipe]; exact hN) o3 l3, wipe_wipe]
        refine ⟨hw3, ?_⟩
        obtain ⟨m3f, _⟩ := m3.frame (R := [D']) wU
        refine ht σ3 G2 H'' e2 U3 m3.wf r3 _ ?_
        have mm : Mv G1 H1 U1 G2 H'' (U3 ++ [D']) := (m'.trans m2).trans (m3f.permL (List.perm_append_comm (l₂ := [D'])))
        cases qt : st e2 with
        | no => rw [qt] at k'; exact k'.elim
        | ex c w' e3 => rw [qt] at k'; exact k'.elim
        | ok b0 e3 =>
          rw [qt] at k'
          intro b G4 H4 u4 U4 m4 h4 r4
          obtain ⟨rfl, rfl⟩ := h4
          rw [List.nil_append] at m4
          obtain ⟨m4f, st4⟩ := m4.frame (R := [D']) mm.wf
          have hd4 : H4 D' = some (.lst vacc) := (st4 D' (by simp)).trans hd2
          have mm4 := mm.trans m4f
          have len3 : ∀ {G5 H5 : Hp} {U5 : List Addr} {e5 : Env}, Rl K T G5 H5 σ3 e5 U5 → e5.length = e1.length := fun r5 => lenW r5 hw3
          cases b with
          | false =>
            rw [if_neg Bool.false_ne_true]
            obtain ⟨ud, U6, r6, p6⟩ := r4.wipeAll vs
            rw [hw3] at r6
            have pm : (ud ++ (D' :: U6)).Perm (U4 ++ [D']) := List.perm_middle.trans ((p6.cons D').trans (List.perm_append_comm (l₁ := [D'])))
            exact ⟨G4, U6, _, acc, vacc, mm4.trans ((Mv.forget (mm4.wf.perm pm.symm)).permL pm), hd4, fa.mono K (m2.gg.trans m4.gg), r6, fun i m => wipeE_in m (by rw [len3 r4]; exact hlt i m), k'⟩
          | true =>
            rw [if_pos rfl]
            refine he σ3 G4 H4 e3 U4 m4.wf r4 _ ?_
            dsimp only at k'
            cases qe : se e3 with
            | no => rw [qe] at k'; exact k'.elim
            | ex c w' e4 => rw [qe] at k'; exact k'.elim
            | ok o e4 =>
              rw [qe] at k'
              intro v5 G5 H5 u5 U5 m5 h5 r5
              dsimp only at k'
              cases qc : cut o e4 with
              | none => rw [qc] at k'; exact k'.elim
              | some ze =>
                obtain ⟨z, e5⟩ := ze
                rw [qc] at k'
                dsimp only at k'
                split at k'
                · rename_i hlim
                  obtain ⟨m5f, st5⟩ := m5.frame (R := [D']) mm4.wf
                  obtain ⟨G6, U6, m6, f6, r6⟩ := cut_ok m5.wf h5 r5 qc
                  obtain ⟨m6f, _⟩ := m6.frame (R := [D']) m5f.wf
                  have hd5 : H5 D' = some (.lst vacc) := (st5 D' (by simp)).trans hd4
                  have fa6 := fa.mono K (((m2.gg.trans m4.gg).trans m5.gg).trans m6.gg)
                  have mm6 := (mm4.trans m5f).trans m6f
                  refine ⟨vacc, hd5, Nat.lt_of_lt_of_le (by rw [fa.length]; exact hlim) lim_le, ?_⟩
                  obtain ⟨ud, U7, r7, p7⟩ := r6.wipeAll vs
                  rw [hw3] at r7
                  have pm : (ud ++ (D' :: U7)).Perm (U6 ++ [D']) := List.perm_middle.trans ((p7.cons D').trans (List.perm_append_comm (l₁ := [D'])))
                  have mm7 := mm6.trans ((Mv.forget (mm6.wf.perm pm.symm)).permL pm)
                  have mw := Mv.write mm7.wf (o := .lst (vacc ++ [v5])) (p := D') (by simp)
                  have stw : ∀ a ∈ U7, upd H5 D' (.lst (vacc ++ [v5])) a = H5 a := fun a ha => upd_ne fun q => by
                    rw [q] at ha
                    exact (List.nodup_cons.mp mm7.wf.nd).1 ha
                  exact ⟨G6, U7, _, acc ++ [z], vacc ++ [v5], mm7.trans mw, upd_same, fa6.append (.cons f6 .nil), r7.mono (Le.refl _) stw, fun i m => wipeE_in m (by rw [len3 r6]; exact hlt i m), k'⟩
                · exact k'.elim
    · rintro H' ⟨G', U', e', acc, vacc, m', hd, fa, r', hn, k'⟩
      rw [List.drop_length, lcL] at k'
      exact k' G' H' U' vacc m' hd fa r' hn
  · exact p.elim
theorem snd_lc {N : Nat} {vs : List Nat} {wi : TI} {g : TG} {tt : TT} {te : TE} {s : Env → Rs (List D)} {f : SG} {st : ST} {se : SE} (nd : vs.Nodup) (h : Snd K T (rI K) W wi s) (hg : SndG K T (roC N vs) g f) (ht : Snd K T rT W' tt st) (he : Snd K T (rE K) W' te se) :
    Snd K T (rE K) W (tLc wi g tt te vs) (sLc N vs s f st se) := fun σ G H env U w rl Q p => by
  refine h σ G H env U w rl _ (post_bind (u := []) (Mv.refl w) p fun J ds e1 G1 H1 u1 U1 e m1 _ _ hJ r1 => ?_)
  rw [List.nil_append] at m1
  obtain ⟨rfl, hJ⟩ := hJ
  rw [List.nil_append] at m1
  rw [show sLc N vs s f st se env = sLcK N vs f st se ds e1 by unfold sLc; rw [e]; rfl] at p
  exact lc_after nd hg ht he σ G1 H1 J ds e1 U1 Q m1.wf ⟨rfl, hJ⟩ r1 (p.from m1)
end
end Vs

namespace L2
open PySem PySem.Spec PyProof.Rows
section
variable {X : Cx} {K : PySem.W.Frag}
def iSeq (K : PySem.W.Frag) (te : TE) : TI := fun σ H R => iList K te σ H R ∨ (iTup K te σ H R ∨ iStr te σ H R)
theorem pi_seq {tg e : Expr} {te : TE} (h : X.K = K) (he : PE X e te) : PI X tg e (iSeq K te) := PI.or (pi_listK h he) (PI.or (pi_tupK h he) (pi_str he))
end
end L2
namespace Vs
open PySem L2
section
variable {K : PySem.W.Frag} {T : CxA} {ro : List Nat} {W W' : WX} {σ σ1 : St} {G H G1 H1 G2 H2 G' H' : Hp} {U U1 U2 U' u u' R : List Addr} {env : Env}
abbrev SI := Env → Rs (List D)
theorem ri_at {J : It} {vs : List V} {ds : List D} {Gd : Hp → Prop} (w : Walk J vs.length Gd (YAt vs)) (hG : ∀ G' H', LeF G G' → Same G' H' → Gd H') (f : FzL K G vs ds) : rI K σ G H J ds [] := by
  refine ⟨rfl, Gd, YAt vs, by rw [← f.length]; exact w, hG, fun i d G' H' U' x H'' hd g w' y => ?_⟩
  obtain ⟨rfl, hx⟩ := y
  obtain ⟨v, hv, fv⟩ := f.get hd
  rw [hv] at hx
  cases hx
  exact ⟨G', Mv.refl w', fv.mono K g.1, fun _ _ => rfl⟩
theorem ri_fn {J : It} {n : Nat} {f : Nat → V} {ds : List D} (w : Walk J n (fun _ => True) (YFn f)) (hn : ds.length = n) (hf : ∀ (i : Nat) (d : D) (G : Hp), ds[i]? = some d → Fz K G (f i) d) : rI K σ G H J ds [] := by
  refine ⟨rfl, _, YFn f, by rw [hn]; exact w, fun _ _ _ _ => trivial, fun i d G' H' U' x H'' hd g w' y => ?_⟩
  obtain ⟨rfl, rfl⟩ := y
  exact ⟨G', Mv.refl w', hf i d G' hd, fun _ _ => rfl⟩
inductive Sk | l | t | s | n
def skOf : Option D → Sk
  | some (.lst _) => .l
  | some (.scr _) => .l
  | some (.tup _) => .t
  | some (.htp _) => .t
  | some (.str _) => .s
  | _ => .n
def seqD : D → Option (List D)
  | .lst l => some l
  | .scr l => some l
  | .tup l => some l
  | .htp l => some l
  | .str x => some (x.cps.toList.map fun c => .str ⟨#[c]⟩)
  | _ => none
def fSeq (o : OR) (e : Env) : Rs (List D) := match cut o e with
  | some (d, e1) => (match seqD d with
    | some l => .ok l e1
    | none => .no)
  | none => .no
def sSeqI (s : SE) : SI := fun e => (s e).bind fSeq
theorem seq_case {α β : Type} {rel : RelB α β} {te : TE} {s : SE} {f : OR → Env → Rs α} {k : Sk} {t : V → Hp → (β → Hp → Prop) → Prop} (h : Snd K T (rE K) W te s) (σ : St) (G H : Hp) (env : Env) (U : List Addr) (Q : β → Hp → Prop) (w : Wf G H U) (r : Rl K T G H σ env U) (p : Post K T rel W σ G H U ((s env).bind f) Q)
    (hk : ∀ o e1, s env = .ok o e1 → skOf (rd o e1) = k)
    (kk : ∀ σ G H x o u env U Q, Wf G H (u ++ U) → ROr K σ G H x o u → Rl K T G H σ env U → skOf (rd o env) = k → Post K T rel W σ G H (u ++ U) (f o env) Q → t x H Q) : te σ H fun x H1 => t x H1 Q := by
  refine h σ G H env U w r _ (post_bind (u := []) (Mv.refl w) p fun x o e1 G1 H1 u1 U1 e m1 _ _ h1 r1 => ?_)
  rw [List.nil_append] at m1
  rw [e] at p
  have p' : Post K T rel W σ G H U (f o e1) Q := p
  refine kk σ G1 H1 x o u1 e1 U1 Q m1.wf h1 r1 (hk o e1 e) ?_
  cases q : f o e1 with
  | no => rw [q] at p'; exact p'
  | ok a e2 => rw [q] at p'; exact fun b G2 H2 u2 U2 m2 h2 r2 => p' b G2 H2 u2 U2 (m1.trans m2) h2 r2
  | ex c w' e2 => rw [q] at p'; exact fun dx v G2 H2 U2 m2 h2 h3 r2 => p' dx v G2 H2 U2 (m1.trans m2) h2 h3 r2
theorem cut_rd2 {o : OR} {d : D} {e1 : Env} (hc : cut o env = some (d, e1)) : rd o env = some d := by
  cases o with
  | tmp a b => simp only [cut, Option.some.injEq, Prod.mk.injEq] at hc; simp only [rd, hc.1]
  | slot j =>
    simp only [cut] at hc
    simp only [rd]
    split at hc
    · rename_i he; cases hc; rfl
    · cases hc
theorem snd_seqI {te : TE} {s : SE} (h : Snd K T (rE K) W te s) : Snd K T (rI K) W (iSeq K te) (sSeqI s) := fun σ G H env U w r Q p => by
  have p' : Post K T (rI K) W σ G H U ((s env).bind fSeq) Q := p
  have one : ∃ k, ∀ o e1, s env = .ok o e1 → skOf (rd o e1) = k := by
    cases q : s env with
    | ok o e1 => exact ⟨skOf (rd o e1), fun o' e' z => by cases z; rfl⟩
    | ex c w e => exact ⟨.n, fun o' e' z => by cases z⟩
    | no => exact ⟨.n, fun o' e' z => by cases z⟩
  obtain ⟨k, hk⟩ := one
  cases k with
  | l =>
    refine .inl (seq_case (t := fun x H (R : It → Hp → Prop) => ∃ a, x = .ref a ∧ (∃ xs, SqL K H a xs) ∧ R (Itl K a) H) h σ G H env U Q w r p' hk fun σ G H x o u env U Q w ro' rl hs p => ?_)
    unfold fSeq at p
    split at p
    · rename_i d e1 hc
      rw [cut_rd2 hc] at hs
      obtain ⟨G1, U1, m1, f1, r1⟩ := cut_ok w ro' rl hc
      split at p
      · rename_i l hl
        cases f1 with
        | @lst a vs ds ha f =>
          cases hl
          exact ⟨a, rfl, ⟨vs, SqL.of (m1.wf.gh _ _ ha)⟩, p _ G1 H [] U1 m1 (ri_at walk_list (fun G' H' g s => SqL.of (s _ _ (g.1.lst ha))) f) r1⟩
        | @scr a vs ds ha f =>
          cases hl
          exact ⟨a, rfl, ⟨vs, (Le.of m1.wf.gh).sqL ha⟩, p _ G1 H [] U1 m1 (ri_at walk_list (fun G' H' g s => (Le.of s).sqL (g.1.sqL ha)) f) r1⟩
        | _ => cases hs
      · exact p.elim
    · exact p.elim
  | t =>
    refine .inr (.inl (seq_case (t := fun x H (R : It → Hp → Prop) => ∃ a, x = .ref a ∧ (∃ xs, SqT K H a xs) ∧ R (Itt K a) H) h σ G H env U Q w r p' hk fun σ G H x o u env U Q w ro' rl hs p => ?_))
    unfold fSeq at p
    split at p
    · rename_i d e1 hc
      rw [cut_rd2 hc] at hs
      obtain ⟨G1, U1, m1, f1, r1⟩ := cut_ok w ro' rl hc
      split at p
      · rename_i l hl
        cases f1 with
        | @tup a vs ds ha f =>
          cases hl
          exact ⟨a, rfl, ⟨vs, ha.sq m1.wf.gh⟩, p _ G1 H [] U1 m1 (ri_at walk_tup (fun G' H' g s => (ha.le g.1).sq s) f) r1⟩
        | @htp a vs ds ha f =>
          cases hl
          exact ⟨a, rfl, ⟨vs, ha.sq m1.wf.gh⟩, p _ G1 H [] U1 m1 (ri_at walk_tup (fun G' H' g s => (ha.le g.1).sq s) f) r1⟩
        | _ => cases hs
      · exact p.elim
    · exact p.elim
  | s =>
    refine .inr (.inr (seq_case (t := fun x H (R : It → Hp → Prop) => ∃ z, x = .str z ∧ R (Its z) H) h σ G H env U Q w r p' hk fun σ G H x o u env U Q w ro' rl hs p => ?_))
    unfold fSeq at p
    split at p
    · rename_i d e1 hc
      rw [cut_rd2 hc] at hs
      obtain ⟨G1, U1, m1, f1, r1⟩ := cut_ok w ro' rl hc
      split at p
      · rename_i l hl
        cases f1 with
        | str z =>
          cases hl
          refine ⟨z, rfl, p _ G1 H [] U1 m1 ⟨rfl, _, _, by rw [List.length_map, Array.length_toList]; exact walk_str, fun _ _ _ _ => trivial, fun i d G' H' U' x H'' hd g w' y => ?_⟩ r1⟩
          obtain ⟨rfl, c, hc, rfl⟩ := y
          refine ⟨G', Mv.refl w', ?_, fun _ _ => rfl⟩
          rw [List.getElem?_map, Array.getElem?_toList, hc] at hd
          cases hd
          exact .str _
        | _ => cases hs
      · exact p.elim
    · exact p.elim
  | n =>
    refine .inl (seq_case (t := fun x H (R : It → Hp → Prop) => ∃ a, x = .ref a ∧ (∃ xs, SqL K H a xs) ∧ R (Itl K a) H) h σ G H env U Q w r p' hk fun σ G H x o u env U Q w ro' rl hs p => ?_)
    unfold fSeq at p
    split at p
    · rename_i d e1 hc
      rw [cut_rd2 hc] at hs
      cases d <;> first | exact p.elim | cases hs
    · exact p.elim
def rngL (lo : Int) (n : Nat) : List D := (List.range n).map fun (i : Nat) => D.int (lo + (i : Int))
def fRng1 (os : List OR) (e : Env) : Rs (List D) := match rds os e with
  | some [.int j] => if j.natAbs ≤ 1000000000 then .ok (rngL 0 j.toNat) e else .no
  | _ => .no
def fRng2 (os : List OR) (e : Env) : Rs (List D) := match rds os e with
  | some [.int i, .int j] => if i.natAbs ≤ 1000000000 ∧ j.natAbs ≤ 1000000000 then .ok (rngL i (j - i).toNat) e else .no
  | _ => .no
theorem ri_rng {lo : Int} {n : Nat} : rI K σ G H (Itr lo n) (rngL lo n) [] := ri_fn walk_range (by simp [rngL]) fun i d G hd => by
  unfold rngL at hd
  rw [List.getElem?_map] at hd
  by_cases hi : i < n
  · rw [List.getElem?_range hi] at hd
    cases hd
    exact .int _
  · rw [List.getElem?_eq_none (by simpa using hi)] at hd; cases hd
theorem snd_argsI {ta : TA} {a : SA} {f : List OR → Env → Rs (List D)} {t : List V → Hp → (It → Hp → Prop) → Prop} (h : Snd K T (rA K) W ta a)
    (k : ∀ σ G H vs os u env U Q, Wf G H (u ++ U) → RAs K σ G H vs os u → Rl K T G H σ env U → Post K T (rI K) W σ G H (u ++ U) (f os env) Q → t vs H Q) : Snd K T (rI K) W (fun σ H Q => ta σ H fun vs H1 => t vs H1 Q) (fun e => (a e).bind f) := fun σ G H env U w rl Q p => by
  refine h σ G H env U w rl _ (post_bind (u := []) (Mv.refl w) p fun x o e1 G1 H1 u1 U1 e m1 _ _ h1 r1 => ?_)
  rw [List.nil_append] at m1
  have p' : Post K T (rI K) W σ G H U (f o e1) Q := by
    have z : Post K T (rI K) W σ G H U ((a env).bind f) Q := p
    rw [e] at z; exact z
  refine k σ G1 H1 x o u1 e1 U1 Q m1.wf h1 r1 ?_
  cases q : f o e1 with
  | no => rw [q] at p'; exact p'
  | ok a e2 => rw [q] at p'; exact fun b G2 H2 u2 U2 m2 h2 r2 => p' b G2 H2 u2 U2 (m1.trans m2) h2 r2
  | ex c w' e2 => rw [q] at p'; exact fun dx v G2 H2 U2 m2 h2 h3 r2 => p' dx v G2 H2 U2 (m1.trans m2) h2 h3 r2
def sRng1 (a : SA) : SI := fun e => (a e).bind fRng1
def sRng2 (a : SA) : SI := fun e => (a e).bind fRng2
theorem snd_rng1 {ta : TA} {a : SA} (h : Snd K T (rA K) W ta a) : Snd K T (rI K) W (iRng1 ta) (sRng1 a) := snd_argsI (t := fun vs H R => ∃ j : Int, vs = [.int j] ∧ -(2 ^ 62) ≤ j ∧ j < 2 ^ 62 ∧ R (Itr 0 j.toNat) H) h fun σ G H vs os u env U Q w ra rl p => by
  unfold fRng1 at p
  split at p
  · rename_i j e
    split at p
    · rename_i hj
      obtain ⟨x, rfl, fx⟩ := fzl_one (rds_ok w.gh rl ra e)
      cases fx
      exact ⟨j, rfl, by omega, by omega, p _ G H [] U (Mv.forget w) ri_rng rl⟩
    · exact p.elim
  · exact p.elim
def gLen : List D → Option D
  | [.lst l] => some (.int l.length)
  | [.tup l] => some (.int l.length)
  | [.scr l] => some (.int l.length)
  | [.htp l] => some (.int l.length)
  | [.str x] => if x.length ≤ lim then some (.int x.length) else none
  | [.dic l] => some (.int l.length)
  | _ => none
theorem FzK.length : ∀ {vs : List (Key × V)} {ds : List (D × D)}, FzK K G vs ds → vs.length = ds.length
  | _, _, .nil => rfl
  | _, _, .cons _ t => congrArg (· + 1) (FzK.length t)
theorem rd_len : RdR K (rLenU K) gLen := fun vs ds z H h e => by
  unfold gLen at e
  split at e
  · cases e
    obtain ⟨x, rfl, h1⟩ := fzl_one h
    cases h1 with
    | @lst a va da e1 f1 => exact ⟨_, fun _ => .int _, fun Q q => .inl ⟨a, va, rfl, .inl (SqL.of e1), by rw [f1.length]; exact q⟩⟩
  · cases e
    obtain ⟨x, rfl, h1⟩ := fzl_one h
    cases h1 with
    | @tup a va da e1 f1 => exact ⟨_, fun _ => .int _, fun Q q => .inl ⟨a, va, rfl, .inr e1.sq0, by rw [f1.length]; exact q⟩⟩
  · cases e
    obtain ⟨x, rfl, h1⟩ := fzl_one h
    cases h1 with
    | @scr a va da e1 f1 => exact ⟨_, fun _ => .int _, fun Q q => .inl ⟨a, va, rfl, .inl e1, by rw [f1.length]; exact q⟩⟩
  · cases e
    obtain ⟨x, rfl, h1⟩ := fzl_one h
    cases h1 with
    | @htp a va da e1 f1 => exact ⟨_, fun _ => .int _, fun Q q => .inl ⟨a, va, rfl, .inr e1.sq0, by rw [f1.length]; exact q⟩⟩
  · split at e
    · rename_i hl
      cases e
      obtain ⟨x, rfl, h1⟩ := fzl_one h
      cases h1
      exact ⟨_, fun _ => .int _, fun Q q => .inr (.inl ⟨_, rfl, Nat.le_trans hl lim_le, q⟩)⟩
    · cases e
  · cases e
    obtain ⟨x, rfl, h1⟩ := fzl_one h
    cases h1 with
    | @dic a va da e1 f1 => exact ⟨_, fun _ => .int _, fun Q q => .inr (.inr ⟨a, va, rfl, e1, by rw [f1.length]; exact q⟩)⟩
  · cases e
def gInt : List D → Option D
  | [.int i] => some (.int i)
  | [.bl b] => some (.int (if b then 1 else 0))
  | _ => none
theorem rd_int : RdR K (fun xs H Q => (∃ i, xs = [V.int i] ∧ Q (.int i) H) ∨ ∃ k, xs = [V.bl k] ∧ Q (.int (if k then 1 else 0)) H) gInt := fun vs ds z H h e => by
  unfold gInt at e
  split at e
  · cases e
    obtain ⟨x, rfl, h1⟩ := fzl_one h
    cases h1
    exact ⟨_, fun _ => .int _, fun Q q => .inl ⟨_, rfl, q⟩⟩
  · cases e
    obtain ⟨x, rfl, h1⟩ := fzl_one h
    cases h1
    exact ⟨_, fun _ => .int _, fun Q q => .inr ⟨_, rfl, q⟩⟩
  · cases e
def gAbs : List D → Option D
  | [.int i] => some (.int (if i < 0 then -i else i))
  | _ => none
theorem rd_abs : RdR K (fun xs H Q => ∃ i, xs = [V.int i] ∧ Q (.int (if i < 0 then -i else i)) H) gAbs := fun vs ds z H h e => by
  unfold gAbs at e
  split at e
  · cases e
    obtain ⟨x, rfl, h1⟩ := fzl_one h
    cases h1
    exact ⟨_, fun _ => .int _, fun Q q => ⟨_, rfl, q⟩⟩
  · cases e
end
end Vs

namespace L2
open PySem PySem.Spec PyProof.Rows
section
variable {X : Cx} {K : PySem.W.Frag}
def rSetU : TSet := fun o i v H Q => rSetL o i v H Q ∨ rSetD o i v H Q
theorem set_U (hu : X.A.units + 1 < cLine) : PSet X rSetU := by
  intro pins s σ H o i v ov iv u Q I ro ri rv h
  rcases h with h | h
  · exact set_list pins s σ H o i v ov iv u Q I ro ri rv h
  · exact set_dict hu pins s σ H o i v ov iv u Q I ro ri rv h
end
end L2
namespace Vs
open PySem L2
section
variable {K : PySem.W.Frag} {T : CxA} {ro : List Nat} {W W' : WX} {σ σ1 : St} {G H G1 H1 G2 H2 G' H' : Hp} {U U1 U2 U' u u' R : List Addr} {env : Env}
def tyS : D → Option String
  | .non => some "NoneType"
  | .bl _ => some "bool"
  | .int _ => some "int"
  | .str _ => some "str"
  | .lst _ => some "list"
  | .scr _ => some "list"
  | .tup _ => some "tuple"
  | .htp _ => some "tuple"
  | .dic _ => some "dict"
  | _ => none
theorem tyx_fz {v : V} {d : D} {t : String} (h : Fz K H v d) (e : tyS d = some t) : TyX K H v (.type t) := by
  cases h with
  | non => cases e; exact .base .non
  | bl b => cases e; exact .base (.bl b)
  | int i => cases e; exact .base (.int i)
  | str x => cases e; exact .base (.str x)
  | lst h _ => cases e; exact .base (.lst h)
  | scr h _ =>
    cases e
    rcases h with (h | ⟨o, h⟩) | ⟨o, its, n, h1, h2, _⟩
    · exact .base (.lst h)
    · exact .base (.frz h)
    · exact .kList h1 h2
  | tup h _ =>
    cases e
    rcases h.rd with h | ⟨o, h⟩
    · exact .base (.tup h)
    · exact .fTuple h
  | htp h _ =>
    cases e
    obtain ⟨o, h, _⟩ := h
    exact .fTuple h
  | dic h _ =>
    cases e
    rcases h with h | ⟨o, h⟩
    · exact .base (.dK h)
    · exact .fDict h
  | _ => cases e
def tys : List String := ["int", "bool", "str", "tuple", "list", "dict"]
def isTy (t T : String) : Bool := decide (t = T) || (decide (t = "bool") && decide (T = "int"))
theorem kit_isTy : ∀ t ∈ ("NoneType" :: tys), ∀ T ∈ tys, kitB t T = some (isTy t T) := by decide +kernel
theorem tyS_mem {d : D} {t : String} (e : tyS d = some t) : t ∈ ("NoneType" :: tys) := by
  cases d <;> first | (cases e; decide) | cases e
def dIsi (ics : List Str) (d c : D) : Option Bool := match c with
  | .ty T => if T ∈ tys then (match d with
    | .ins c' _ => if c' ∈ ics then some false else none
    | _ => (tyS d).map fun t => isTy t T) else none
  | .glo C => if C ∈ ics then (match d with
    | .ins c' _ => if c' = C then some true else none
    | _ => (tyS d).map fun _ => false) else none
  | _ => none
def gIsi (ics : List Str) : List D → Option D
  | [d, c] => (dIsi ics d c).map .bl
  | _ => none
theorem rd_isi {ics : List Str} (hI : ∀ c ∈ ics, Cls K (He.ga K c) ∧ He.InsC K (He.ga K c)) : RdR K (rIsi K) (gIsi ics) := fun vs ds z H h e => by
  unfold gIsi at e
  split at e
  · rename_i d c
    rw [Option.map_eq_some_iff] at e
    obtain ⟨b, e, rfl⟩ := e
    obtain ⟨x, y, rfl, h1, h2⟩ := fzl_two h
    refine ⟨.bl b, fun _ => .bl _, fun Q q => ?_⟩
    unfold dIsi at e
    split at e
    · rename_i T
      cases h2
      split at e
      · rename_i hT
        split at e
        · rename_i c' fs
          split at e
          · rename_i hc
            cases e
            obtain ⟨cl, ic⟩ := hI c' hc
            cases h1 with
            | @ins a dx _ vs _ ha _ => exact ⟨.ref a, .ty T, .ref (He.ga K c'), .type T, false, rfl, .ty T, .base (.ins ha cl ic.ha ic.hn ic.htk ic.hm), ic.ty T hT, q⟩
          · cases e
        · rw [Option.map_eq_some_iff] at e
          obtain ⟨t, et, rfl⟩ := e
          exact ⟨x, .ty T, .type t, .type T, _, rfl, .ty T, tyx_fz h1 et, kit_ty (kit_isTy t (tyS_mem et) T hT), q⟩
      · cases e
    · rename_i C
      cases h2
      split at e
      · rename_i hC
        obtain ⟨cl, ic⟩ := hI C hC
        split at e
        · rename_i c' fs
          split at e
          · rename_i hc
            cases e
            subst hc
            cases h1 with
            | @ins a dx _ vs _ ha _ => exact ⟨.ref a, .ref (He.ga K c'), .ref (He.ga K c'), .ref (He.ga K c'), true, rfl, .own _, .base (.ins ha cl ic.ha ic.hn ic.htk ic.hm), ic.self, q⟩
          · cases e
        · rw [Option.map_eq_some_iff] at e
          obtain ⟨t, et, rfl⟩ := e
          exact ⟨x, .ref (He.ga K C), .type t, .ref (He.ga K C), false, rfl, .own _, tyx_fz h1 et, ic.no t (tyS_mem et), q⟩
      · cases e
    · cases e
  · cases e
mutual
def toPyQ : D → Option PyData
  | .non => some .none
  | .bl b => some (.bool b)
  | .int i => some (.int i)
  | .str x => some (.str x)
  | .lst l => (toPyQL l).map .list
  | .tup l => (toPyQL l).map .tuple
  | .htp l => (toPyQL l).map .tuple
  | _ => none
def toPyQL : List D → Option (List PyData)
  | [] => some []
  | d :: l => match toPyQ d, toPyQL l with
    | some p, some q => some (p :: q)
    | _, _ => none
end
mutual
theorem fz_dq : ∀ {v : V} {d : D} {p : PyData}, Fz K H v d → toPyQ d = some p → Dq K H v p
  | _, _, _, .non, e => by simp only [toPyQ, Option.some.injEq] at e; subst e; exact .non
  | _, _, _, .bl b, e => by simp only [toPyQ, Option.some.injEq] at e; subst e; exact .bl b
  | _, _, _, .int i, e => by simp only [toPyQ, Option.some.injEq] at e; subst e; exact .int i
  | _, _, _, .str x, e => by simp only [toPyQ, Option.some.injEq] at e; subst e; exact .str x
  | _, _, _, .lst h a, e => by
    simp only [toPyQ, Option.map_eq_some_iff] at e
    obtain ⟨q, e, rfl⟩ := e
    exact .lst (SqL.of h) (fz_dql a e)
  | _, _, _, .tup h a, e => by
    simp only [toPyQ, Option.map_eq_some_iff] at e
    obtain ⟨q, e, rfl⟩ := e
    exact .tup h.sq0 (fz_dql a e)
  | _, _, _, .pr _ _ _, e => by simp [toPyQ] at e
  | _, _, _, .ty n, e => by simp [toPyQ] at e
  | _, _, _, .glo x, e => by simp [toPyQ] at e
  | _, _, _, .scr h a, e => by simp [toPyQ] at e
  | _, _, _, .dic h a, e => by simp [toPyQ] at e
  | _, _, _, .dit h a, e => by simp [toPyQ] at e
  | _, _, _, .ins h a, e => by simp [toPyQ] at e
  | _, _, _, .rng h, e => by simp [toPyQ] at e
  | _, _, _, .htp h a, e => by
    simp only [toPyQ, Option.map_eq_some_iff] at e
    obtain ⟨q, e, rfl⟩ := e
    exact .tup h.sq0 (fz_dql a e)
theorem fz_dql : ∀ {vs : List V} {ds : List D} {ps : List PyData}, FzL K H vs ds → toPyQL ds = some ps → DqAll K H vs ps
  | _, _, _, .nil, e => by simp only [toPyQL, Option.some.injEq] at e; subst e; exact .nil
  | _, _, _, .cons h t, e => by
    simp only [toPyQL] at e
    split at e
    · rename_i p q e1 e2
      cases e
      exact .cons (fz_dq h e1) (fz_dql t e2)
    · cases e
end
def sRaise (c : Str) (a : SA) : SS := sBind a fun os e => match os with
  | [o] => (match cut o e with
    | some (d, e1) => .ex c d e1
    | none => .no)
  | _ => .no
theorem snds_raise {c : Str} {ta : TA} {a : SA} (h : Snd K T (rA K) W ta a) : SndS K T ro W (tRaiseOwe (He.ga K c) W ta) (sRaise c a) :=
  snds_bind (tk := fun vs _ σ H => ∃ v, vs = [v] ∧ ∀ d, H d = none → W (.ref (He.ga K c)) (some d) σ (upd H d (.xd [(("what" : Str), v)]))) h fun σ G H vs os u env U E w hr r p => by
    split at p
    · rename_i o
      obtain ⟨x, rfl, h1⟩ := ras_one hr
      split at p
      · rename_i d e1 hc
        obtain ⟨G1, U1, m1, f1, r1⟩ := cut_ok w h1 r hc
        refine ⟨x, rfl, fun dx hdx => ?_⟩
        have m2 := Mv.newO m1.wf (o := .xd [(("what" : Str), x)]) hdx
        exact p dx x σ G1 _ U1 (m1.trans m2) upd_same f1 (r1.mono (Le.refl _) fun a ha => upd_ne fun z => by rw [z] at ha; exact m1.wf.fresh hdx ha) Ro.refl
      · exact p.elim
    · exact p.elim
def sWhat (i : Nat) : SE := fun e => match e[i]? with
  | some (some (.cau w)) => .ok (.tmp w .fz) e
  | _ => .no
end
end Vs

namespace Vs
open PySem L2
section
variable {K : PySem.W.Frag} {T : CxA} {ro : List Nat} {W W' : WX} {σ σ1 : St} {G H G1 H1 G2 H2 G' H' : Hp} {U U1 U2 U' u u' R : List Addr} {env : Env}
def putT (o : OR) (d : D) (m : M) (e : Env) : Option Env := match o with
  | .slot i => (match e[i]? with
    | some (some (.val _ _)) => some (e.set i (some (.val d m)))
    | _ => none)
  | .tmp _ _ => some e
theorem write_root {v : V} {o : OR} {d d' : D} {m m' : M} {env' : Env} {a : Addr} {o' : HO} {u0 : List Addr} (w : Wf G H ((u ++ u0) ++ U)) (h : ROr K σ G H v o u) (r : Rl K T G H σ env U) (e : tree o env = some (d, m))
    (hw : ∀ ut, RelD K G H v d m ut → ut.Nodup → a ∈ ut ∧ ∀ H', H' a = some o' → (∀ b ∈ ut, b ≠ a → H' b = H b) → RelD K G H' v d' m' ut) (ep : putT o d' m' env = some env') (no : ∀ vs, o' ≠ .tup vs := by intro _ h; cases h) :
    Mv G H ((u ++ u0) ++ U) G (upd H a o') (u0 ++ (match o with | .slot _ => U | .tmp _ _ => U)) ∧ Rl K T G (upd H a o') σ env' U ∧ ∀ b ∈ u0, upd H a o' b = H b := by
  cases o with
  | tmp d0 m0 =>
    simp only [tree, Option.some.injEq, Prod.mk.injEq] at e
    obtain ⟨rfl, rfl⟩ := e
    simp only [putT, Option.some.injEq] at ep
    subst ep
    obtain ⟨ha, _⟩ := hw u h (List.nodup_append.mp (List.nodup_append.mp w.nd).1).1
    have mw := Mv.write w (o := o') (p := a) (by simp [ha]) no
    have ne : ∀ b ∈ u0 ++ U, b ≠ a := fun b hb z => by
      rw [z] at hb
      have w' : Wf G H (u ++ (u0 ++ U)) := by rw [← List.append_assoc]; exact w
      exact w'.apart ha hb
    refine ⟨?_, r.mono (Le.refl _) fun b hb => upd_ne (ne b (by simp [hb])), fun b hb => upd_ne (ne b (by simp [hb]))⟩
    have w2 : Wf G (upd H a o') (u ++ (u0 ++ U)) := by rw [← List.append_assoc]; exact mw.wf
    have f := Mv.forget w2
    rw [← List.append_assoc] at f
    exact mw.trans f
  | slot i =>
    obtain ⟨hv, rfl⟩ := h
    simp only [tree] at e
    split at e
    · rename_i d0 m0 he
      cases e
      simp only [putT, he, Option.some.injEq] at ep
      subst ep
      obtain ⟨v', ui, Ui, k1, k2, k3, k4⟩ := r.takeV he
      have : v' = v := by
        have z := k1.symm.trans hv
        cases z; rfl
      subst this
      have w' : Wf G H (u0 ++ U) := w
      obtain ⟨ha, hw2⟩ := hw ui k2 (List.nodup_append.mp (w'.right.perm k4.symm).nd).1
      have aU : a ∈ U := k4.mem_iff.mp (by simp [ha])
      have mw := Mv.write w' (o := o') (p := a) (by simp [aU]) no
      have ndU : Wf G H (ui ++ Ui) := w'.right.perm k4.symm
      have neU : ∀ b ∈ Ui, b ≠ a := fun b hb z => by rw [z] at hb; exact ndU.apart ha hb
      have ne0 : ∀ b ∈ u0, b ≠ a := fun b hb z => by rw [z] at hb; exact w'.apart hb aU
      have rel := hw2 (upd H a o') upd_same fun b _ hb => upd_ne hb
      have r2 := Rl.back rel k1 (k3.mono (Le.refl _) fun b hb => upd_ne (neU b hb)) (get_lt he)
      exact ⟨mw, r2.perm k4, fun b hb => upd_ne (ne0 b hb)⟩
    · cases e
def tyO (T : String) (o : OR) (e : Env) : Bool := match rd o e with
  | some (.lst _) => decide (T = "list")
  | some (.str _) => decide (T = "str")
  | some (.int _) => decide (T = "int")
  | _ => false
theorem tyO_ok {T' : String} {v : V} {o : OR} (w : Wf G H (u ++ U)) (h : ROr K σ G H v o u) (r : Rl K T G H σ env U) (e : tyO T' o env = true) : tyV K T' v H := by
  unfold tyO at e
  split at e
  · rename_i l er
    have f := rd_ok w.gh h r er
    have ht := of_decide_eq_true e
    subst ht
    cases f with
    | @lst a vs _ ha _ => exact .inl ⟨rfl, vs, SqL.of ha⟩
  · rename_i l er
    have f := rd_ok w.gh h r er
    have ht := of_decide_eq_true e
    subst ht
    cases f
    rfl
  · rename_i l er
    have f := rd_ok w.gh h r er
    have ht := of_decide_eq_true e
    subst ht
    cases f
    rfl
  · cases e
def sBM (T' : String) (f : OR → List OR → Env → Rs OR) (o : SE) (a : SA) : SE := fun e => (o e).bind fun x e1 => if tyO T' x e1 then (a e1).bind fun xs e2 => f x xs e2 else .no
theorem snd_bm {T' : String} {r : V → List V → Hp → VK → Prop} {f : OR → List OR → Env → Rs OR} {to : TE} {t : TA} {o : SE} {a : SA} (ho : Snd K T (rE K) W to o) (h : Snd K T (rA K) W t a)
    (hr : ∀ σ G H x vs ox os u u' env U Q, Wf G H ((u ++ u') ++ U) → ROr K σ G H x ox u → RAs K σ G H vs os u' → Rl K T G H σ env U → Post K T (rE K) W σ G H ((u ++ u') ++ U) (f ox os env) Q → r x vs H Q) :
    Snd K T (rE K) W (tBM K T' r to t) (sBM T' f o a) := fun σ G H env U w rl Q p => by
  refine ho σ G H env U w rl _ (post_bind (u := []) (Mv.refl w) p fun x ox e1 G1 H1 u1 U1 e m1 _ _ h1 r1 => ?_)
  rw [List.nil_append] at m1
  rw [show sBM T' f o a env = (if tyO T' ox e1 then (a e1).bind fun xs e2 => f ox xs e2 else .no) by unfold sBM; rw [e]; rfl] at p
  split at p
  · rename_i hi
    refine ⟨tyO_ok m1.wf h1 r1 hi, ?_⟩
    refine h σ G1 H1 e1 U1 m1.wf.right r1 _ (post_bind m1 p fun vs os e2 G2 H2 u2 U2 e' m2 g2 st h2 r2 => ?_)
    rw [e'] at p
    have p2 : Post K T (rE K) W σ G H U (f ox os e2) Q := p
    have m3 : Mv G H U G2 H2 ((u1 ++ u2) ++ U2) := m2.permR (by rw [List.append_assoc]; exact List.perm_append_comm_assoc u2 u1 U2)
    refine hr σ G2 H2 x vs ox os u1 u2 e2 U2 Q m3.wf (h1.mono g2 st) h2 r2 ?_
    cases q : f ox os e2 with
    | no => rw [q] at p2; exact p2
    | ok o e3 => rw [q] at p2; exact fun b G3 H3 u3 U3 m4 h3 r3 => p2 b G3 H3 u3 U3 (m3.trans m4) h3 r3
    | ex c w' e3 => rw [q] at p2; exact fun dx v G3 H3 U3 m4 h3 h4 r3 => p2 dx v G3 H3 U3 (m3.trans m4) h3 h4 r3
  · exact p.elim
theorem RelL.snoc {v : V} {d : D} (h : Fz K G v d) : ∀ {vs : List V} {ds : List D} {ms : List M} {u : List Addr}, RelL K G H vs ds ms u → RelL K G H (vs ++ [v]) (ds ++ [d]) ms u
  | _, _, _, _, .fz f => .fz (f.append (.cons h .nil))
  | _, _, _, _, .cons a t => .cons a (RelL.snoc h t)
def fAppend (x : OR) (os : List OR) (e : Env) : Rs OR := match os with
  | [o] => (match cut o e with
    | some (z, e1) => (match tree x e1 with
      | some (.lst l, .nd true ms) => if l.length < lim then (match putT x (.lst (l ++ [z])) (.nd true ms) e1 with
        | some e2 => .ok (.tmp .non .fz) e2
        | none => .no) else .no
      | _ => .no)
    | none => .no)
  | _ => .no
theorem recv_cut {x : V} {y : V} {ox oy : OR} {z : D} {e1 : Env} (w : Wf G H ((u ++ u') ++ U)) (h1 : ROr K σ G H x ox u) (h2 : ROr K σ G H y oy u') (r : Rl K T G H σ env U) (hc : cut oy env = some (z, e1)) :
    ∃ G1 U1, Mv G H ((u ++ u') ++ U) G1 H ((u ++ []) ++ U1) ∧ Fz K G1 y z ∧ ROr K σ G1 H x ox u ∧ Rl K T G1 H σ e1 U1 := by
  have w1 : Wf G H ((u' ++ U) ++ u) := w.perm (by rw [List.append_assoc]; exact List.perm_append_comm)
  obtain ⟨G1, U1, m1, f1, r1⟩ := cut_ok w1.left h2 r hc
  obtain ⟨m2, st⟩ := m1.frame w1
  refine ⟨G1, U1, (m2.permL (by rw [List.append_assoc u u' U]; exact List.perm_append_comm)).permR ?_, f1, h1.mono m1.gg st, r1⟩
  rw [List.append_nil]
  exact List.perm_append_comm
theorem app_ok : ∀ σ G H x vs ox os u u' env U Q, Wf G H ((u ++ u') ++ U) → ROr K σ G H x ox u → RAs K σ G H vs os u' → Rl K T G H σ env U → Post K T (rE K) W σ G H ((u ++ u') ++ U) (fAppend ox os env) Q → rAppend x vs H Q := by
  intro σ G H x vs ox os u u' env U Q w hx hv rl p
  unfold fAppend at p
  split at p
  · rename_i o
    obtain ⟨y, rfl, hy⟩ := ras_one hv
    split at p
    · rename_i z e1 hc
      obtain ⟨G1, U1, m1, fy, hx1, r1⟩ := recv_cut w hx hy rl hc
      split at p
      · rename_i l ms et
        split at p
        · rename_i hl
          split at p
          · rename_i e2 ep
            have w1 : Wf G1 H (u ++ U1) := by have := m1.wf; rw [List.append_nil] at this; exact this
            obtain ⟨ut, ht⟩ := tree_ok w1 hx1 r1 et
            cases ht with
            | @lst a vs _ _ u2 ha rl2 =>
              refine ⟨a, vs, y, rfl, rfl, ha, Nat.lt_of_lt_of_le (by rw [rl2.length]; exact hl) lim_le, ?_⟩
              obtain ⟨m2, r2, _⟩ := write_root (u0 := []) (a := a) (o' := .lst (vs ++ [y])) (d' := .lst (l ++ [z])) (m' := .nd true ms) m1.wf hx1 r1 et (fun ut ht nd => by
                cases ht with
                | @lst _ vs' _ _ u3 ha' rl3 =>
                  rw [ha] at ha'
                  cases ha'
                  exact ⟨by simp, fun H' h1 h2 => .lst h1 ((rl3.snoc fy).mono (Le.refl _) fun b hb => h2 b (by simp [hb]) fun q => (List.nodup_cons.mp nd).1 (q ▸ hb))⟩) ep
              have m3 : Mv G H ((u ++ u') ++ U) G1 (upd H a (.lst (vs ++ [y]))) ([] ++ U1) := m1.trans (by cases ox <;> exact m2)
              exact p .non G1 _ [] U1 m3 (.fz .non) r2
          · exact p.elim
        · exact p.elim
      · exact p.elim
    · exact p.elim
  · exact p.elim
theorem snd_append {to : TE} {t : TA} {o : SE} {a : SA} (ho : Snd K T (rE K) W to o) (h : Snd K T (rA K) W t a) : Snd K T (rE K) W (tBM K "list" rAppend to t) (sBM "list" fAppend o a) := snd_bm ho h app_ok
def fExtend (x : OR) (os : List OR) (e : Env) : Rs OR := match os with
  | [o] => (match cut o e with
    | some (.lst z, e1) => (match tree x e1 with
      | some (.lst l, .nd true ms) => if l.length + z.length ≤ lim then (match putT x (.lst (l ++ z)) (.nd true ms) e1 with
        | some e2 => .ok (.tmp .non .fz) e2
        | none => .no) else .no
      | _ => .no)
    | _ => .no)
  | _ => .no
theorem RelL.fzl : ∀ {vs : List V} {ds : List D} {u : List Addr}, RelL K G H vs ds [] u → FzL K G vs ds ∧ u = []
  | _, _, _, .fz h => ⟨h, rfl⟩
def putD {κ : Type} [DecidableEq κ] (f : D → Option κ) (kd : D) (k : κ) (z : D) (l : List (D × D)) : List (D × D) :=
  if (l.any fun q => decide (f q.1 = some k)) = true then l.map (fun q => if f q.1 = some k then (q.1, z) else q) else l ++ [(kd, z)]
theorem fzk_any {k : Key} : ∀ {kvs : List (Key × V)} {ds : List (D × D)}, FzK K G kvs ds → (kvs.any fun kv => decide (kv.1 = k)) = ds.any fun q => decide (keyOf q.1 = some k)
  | _, _, .nil => rfl
  | _, _, @FzK.cons _ _ k' v' d' vs ds h t => by
    rw [List.any_cons, List.any_cons, fzk_any t]
    congr 1
    rw [keyOf_kD]
    simp
theorem fzk_map {k : Key} {v : V} {d : D} (hv : Fz K G v d) : ∀ {kvs : List (Key × V)} {ds : List (D × D)}, FzK K G kvs ds → FzK K G (kvs.map fun kv => if kv.1 = k then (kv.1, v) else kv) (ds.map fun q => if keyOf q.1 = some k then (q.1, d) else q)
  | _, _, .nil => .nil
  | _, _, @FzK.cons _ _ k' v' d' vs ds h t => by
    have ih := fzk_map (k := k) hv t
    rw [List.map_cons, List.map_cons, keyOf_kD]
    by_cases q : k' = k
    · subst q
      rw [if_pos rfl, if_pos rfl]
      exact .cons hv ih
    · rw [if_neg q, if_neg (by simpa using q)]
      exact .cons h ih
theorem fzk_snoc {k : Key} {v : V} {d : D} (hv : Fz K G v d) : ∀ {kvs : List (Key × V)} {ds : List (D × D)}, FzK K G kvs ds → FzK K G (kvs ++ [(k, v)]) (ds ++ [(kD k, d)])
  | _, _, .nil => .cons hv .nil
  | _, _, .cons h t => .cons h (fzk_snoc hv t)
theorem fzk_put {k : Key} {v : V} {d : D} (hv : Fz K G v d) {kvs : List (Key × V)} {ds : List (D × D)} (h : FzK K G kvs ds) : FzK K G (putK kvs k v) (putD keyOf (kD k) k d ds) := by
  unfold putK putD
  rw [fzk_any h]
  split
  · exact fzk_map hv h
  · exact fzk_snoc hv h
theorem fzt_any {k : List Key} : ∀ {kvs : List (List Key × V)} {ds : List (D × D)}, FzT K G kvs ds → (kvs.any fun kv => decide (kv.1 = k)) = ds.any fun q => decide (tupKey q.1 = some k)
  | _, _, .nil => rfl
  | _, _, @FzT.cons _ _ k' v' d' vs ds h t => by
    rw [List.any_cons, List.any_cons, fzt_any t]
    congr 1
    rw [tupKey_kT]
    simp
theorem fzt_map {k : List Key} {v : V} {d : D} (hv : Fz K G v d) : ∀ {kvs : List (List Key × V)} {ds : List (D × D)}, FzT K G kvs ds → FzT K G (kvs.map fun kv => if kv.1 = k then (kv.1, v) else kv) (ds.map fun q => if tupKey q.1 = some k then (q.1, d) else q)
  | _, _, .nil => .nil
  | _, _, @FzT.cons _ _ k' v' d' vs ds h t => by
    have ih := fzt_map (k := k) hv t
    rw [List.map_cons, List.map_cons, tupKey_kT]
    by_cases q : k' = k
    · subst q
      rw [if_pos rfl, if_pos rfl]
      exact .cons hv ih
    · rw [if_neg q, if_neg (by simpa using q)]
      exact .cons h ih
theorem fzt_snoc {k : List Key} {v : V} {d : D} (hv : Fz K G v d) : ∀ {kvs : List (List Key × V)} {ds : List (D × D)}, FzT K G kvs ds → FzT K G (kvs ++ [(k, v)]) (ds ++ [(kT k, d)])
  | _, _, .nil => .cons hv .nil
  | _, _, .cons h t => .cons h (fzt_snoc hv t)
theorem fzt_put {k : List Key} {v : V} {d : D} (hv : Fz K G v d) {kvs : List (List Key × V)} {ds : List (D × D)} (h : FzT K G kvs ds) : FzT K G (putK kvs k v) (putD tupKey (kT k) k d ds) := by
  unfold putK putD
  rw [fzt_any h]
  split
  · exact fzt_map hv h
  · exact fzt_snoc hv h
theorem FzT.length : ∀ {vs : List (List Key × V)} {ds : List (D × D)}, FzT K G vs ds → vs.length = ds.length
  | _, _, .nil => rfl
  | _, _, .cons _ t => congrArg (· + 1) (FzT.length t)
def setD (d : D) (m : M) (i z : D) : Option (D × M) := match d, m with
  | .lst l, .nd true [] => (match i with
    | .int k => (ixN l.length k).map fun j => (.lst (l.set j z), .nd true [])
    | _ => none)
  | .dic l, .nd true [] => if l.length < lim then (keyOf i).map fun k => (.dic (putD keyOf (kD k) k z l), .nd true []) else none
  | .dit l, .nd true [] => if l.length < lim then (tupKey i).map fun k => (.dit (putD tupKey (kT k) k z l), .nd true []) else none
  | _, _ => none
def fStore (os : List OR) (e : Env) : Fl := match os with
  | [v, o, i] => (match rd i e with
    | some di => (match cut v e with
      | some (z, e1) => (match tree o e1 with
        | some (d, m) => (match setD d m di z with
          | some (d', m') => (match putT o d' m' e1 with
            | some e2 => .nx e2
            | none => .no)
          | none => .no)
        | none => .no)
      | none => .no)
    | none => .no)
  | _ => .no
def sStore (v o i : SE) : SS := sBind (sCons v (sCons o (sCons i sNil))) fStore
theorem FzL.set {v : V} {d : D} (h : Fz K G v d) : ∀ {vs : List V} {ds : List D} (j : Nat), FzL K G vs ds → FzL K G (vs.set j v) (ds.set j d)
  | _, _, _, .nil => .nil
  | _, _, 0, .cons _ t => .cons h t
  | _, _, j + 1, .cons a t => .cons a (FzL.set h j t)
theorem snds_store {te to ti : TE} {v o i : SE} (hv : Snd K T (rE K) W te v) (ho : Snd K T (rE K) W to o) (hi : Snd K T (rE K) W ti i) : SndS K T ro W (tAsg te (gSub to ti rSetU)) (sStore v o i) :=
  show SndS K T ro W (fun E σ H => tCons te (tCons to (tCons ti tNil)) σ H fun vs H1 => match vs with
    | [x, y, z] => rSetU y z x H1 fun H2 => E.nx σ H2
    | _ => False) _ from
  snds_bind (tk := fun vs E σ H => match vs with
    | [x, y, z] => rSetU y z x H fun H2 => E.nx σ H2
    | _ => False) (snd_cons hv (snd_cons ho (snd_cons hi snd_nil))) fun σ G H vs os u env U E w hr r p => by
    unfold fStore at p
    split at p
    · rename_i o1 o2 o3
      cases hr with
      | @cons x _ u1 _ _ u2 h1 t =>
      cases t with
      | @cons y _ u3 _ _ u4 h2 t =>
      cases t with
      | @cons z _ u5 _ _ u6 h3 t =>
      cases t
      split at p
      · rename_i di hdi
        split at p
        · rename_i dz e1 hc
          split at p
          · rename_i d m et
            split at p
            · rename_i d' m' es
              split at p
              · rename_i e2 ep
                have fz3 := rd_ok w.gh h3 r hdi
                -- the value becomes known, then the index is forgotten
                have w1 : Wf G H ((u1 ++ U) ++ (u3 ++ u5)) := w.perm (by
                  simp only [List.append_nil]
                  rw [List.append_assoc u1, List.append_assoc u1]
                  exact List.Perm.append_left _ List.perm_append_comm)
                obtain ⟨G1, U1, m1, f1, r1⟩ := cut_ok w1.left h1 r hc
                obtain ⟨m2, st⟩ := m1.frame w1
                have h2' : ROr K σ G1 H y o2 u3 := h2.mono m1.gg fun _ _ => rfl
                have m3 : Mv G H ((u1 ++ (u3 ++ (u5 ++ []))) ++ U) G1 H ((u3 ++ u5) ++ U1) := (m2.permL (by
                  simp only [List.append_nil]
                  rw [List.append_assoc u1, List.append_assoc u1]
                  exact List.Perm.append_left _ List.perm_append_comm)).permR List.perm_append_comm
                have m4 : Mv G H ((u1 ++ (u3 ++ (u5 ++ []))) ++ U) G1 H ((u3 ++ []) ++ U1) := m3.trans (by
                  have pm : (u5 ++ ((u3 ++ []) ++ U1)).Perm ((u3 ++ u5) ++ U1) := by
                    rw [List.append_nil, ← List.append_assoc]
                    exact List.Perm.append_right _ List.perm_append_comm
                  exact (Mv.forget (m3.wf.perm pm.symm)).permL pm)
                have w4 : Wf G1 H (u3 ++ U1) := by have := m4.wf; rw [List.append_nil] at this; exact this
                obtain ⟨ut, ht⟩ := tree_ok w4 h2' r1 et
                have fin : ∀ {a : Addr} {o' : HO}, (∀ vs, o' ≠ .tup vs) → (∀ ut, RelD K G1 H y d m ut → ut.Nodup → a ∈ ut ∧ ∀ H', H' a = some o' → (∀ b ∈ ut, b ≠ a → H' b = H b) → RelD K G1 H' y d' m' ut) → E.nx σ (upd H a o') := fun {a o'} no hw => by
                  obtain ⟨m5, r5, _⟩ := write_root (u0 := []) m4.wf h2' r1 et hw ep no
                  have m6 : Mv G H ((u1 ++ (u3 ++ (u5 ++ []))) ++ U) G1 (upd H a o') U1 := m4.trans (by cases o2 <;> exact m5)
                  exact p σ G1 _ U1 m6 r5 Ro.refl
                unfold setD at es
                split at es
                · rename_i l
                  split at es
                  · rename_i k
                    rw [Option.map_eq_some_iff] at es
                    obtain ⟨j, hj, es⟩ := es
                    cases es
                    cases fz3
                    cases ht with
                    | @lst a ws _ _ u7 ha rl2 =>
                      obtain ⟨f2, rfl⟩ := rl2.fzl
                      exact .inl ⟨a, ws, k, j, rfl, rfl, ha, by rw [f2.length]; exact hj, fin (by intro _ h; cases h) fun ut ht nd => by
                        cases ht with
                        | @lst _ ws' _ _ u8 ha' rl3 =>
                          rw [ha] at ha'
                          cases ha'
                          obtain ⟨f3, rfl⟩ := rl3.fzl
                          exact ⟨by simp, fun H' k1 k2 => .lst k1 (.fz (f3.set f1 j))⟩⟩
                  · cases es
                · rename_i l
                  split at es
                  · rename_i hl
                    rw [Option.map_eq_some_iff] at es
                    obtain ⟨k, hk, es⟩ := es
                    cases es
                    have ez := fz_key fz3 hk
                    subst ez
                    cases ht with
                    | @dic a ws _ _ u7 ha rl2 =>
                      have f2 := rl2.fzk
                      exact .inr ⟨a, _, rfl, DPut.k ha (Nat.lt_of_lt_of_le (by rw [f2.length]; exact hl) lim_le), fin (by intro _ h; cases h) fun ut ht nd => by
                        cases ht with
                        | @dic _ ws' _ _ u8 ha' rl3 =>
                          rw [ha] at ha'
                          cases ha'
                          cases rl3 with
                          | fz f3 => exact ⟨by simp, fun H' k1 k2 => .dic k1 (.fz (fzk_put f1 f3))⟩⟩
                  · cases es
                · rename_i l
                  split at es
                  · rename_i hl
                    rw [Option.map_eq_some_iff] at es
                    obtain ⟨k, hk, es⟩ := es
                    cases es
                    cases fz3 with
                    | @tup b vb _ hb fb =>
                      have ez := fz_keys fb hk
                      subst ez
                      cases ht with
                      | @dit a ws _ _ u7 ha rl2 =>
                        have f2 := rl2.fzt
                        have len2 := f2.length
                        exact .inr ⟨a, _, rfl, DPut.t ha (hb.key (keys_all hk)) (Nat.lt_of_lt_of_le (by rw [len2]; exact hl) lim_le), fin (by intro _ h; cases h) fun ut ht nd => by
                          cases ht with
                          | @dit _ ws' _ _ u8 ha' rl3 =>
                            rw [ha] at ha'
                            cases ha'
                            cases rl3 with
                            | fz f3 => exact ⟨by simp, fun H' k1 k2 => .dit k1 (.fz (fzt_put f1 f3))⟩⟩
                    | _ => simp [tupKey] at hk
                  · cases es
                · cases es
              · exact p.elim
            · exact p.elim
          · exact p.elim
        · exact p.elim
      · exact p.elim
    · exact p.elim
end
end Vs

namespace Vs
open PySem L2
section
variable {K : PySem.W.Frag} {T : CxA} {ro : List Nat} {W W' : WX} {σ σ1 : St} {G H G1 H1 G2 H2 G' H' : Hp} {U U1 U2 U' u u' R : List Addr} {env : Env}
def putFM (f : Str) (d : D) (m : M) : List (Str × D) → List M → List (Str × D) × List M
  | [], _ => ([(f, d)], [m])
  | (g, x) :: r, ms => if g = f then ((g, d) :: r, m :: ms.tail) else ((g, x) :: (putFM f d m r ms.tail).1, ms.headD .fz :: (putFM f d m r ms.tail).2)
theorem RelF.uncons {g : Str} {v : V} {vs : List (Str × V)} {g' : Str} {d : D} {ds : List (Str × D)} {ms : List M} (h : RelF K G H ((g, v) :: vs) ((g', d) :: ds) ms u) : ∃ u1 u2, u = u1 ++ u2 ∧ g = g' ∧ RelD K G H v d (ms.headD .fz) u1 ∧ RelF K G H vs ds ms.tail u2 := by
  cases h with
  | fz h => cases h with | cons a t => exact ⟨[], [], rfl, rfl, .fz a, .fz t⟩
  | @cons _ _ _ m u1 _ _ ms u2 a t => exact ⟨u1, u2, rfl, rfl, a, t⟩
theorem RelF.nil_iff {ds : List (Str × D)} {ms : List M} {vs : List (Str × V)} (h : RelF K G H vs ds ms u) : vs = [] ↔ ds = [] := by
  cases h with
  | fz h => cases h <;> simp
  | cons => simp
theorem RelF.put {f : Str} {y : V} {d : D} {m : M} {uy : List Addr} (hy : RelD K G H y d m uy) : ∀ {ds : List (Str × D)} {vs : List (Str × V)} {ms : List M} {u : List Addr}, RelF K G H vs ds ms u →
    ∃ ud u', RelF K G H (putF f y vs) (putFM f d m ds ms).1 (putFM f d m ds ms).2 u' ∧ (ud ++ u').Perm (u ++ uy)
  | [], vs, ms, u, h => by
    have := h.nil_iff.mpr rfl
    subst this
    exact ⟨u, uy, by simpa [putF, putFM] using RelF.cons (ms := []) (u' := []) hy (.fz .nil), List.Perm.refl _⟩
  | (g, x) :: ds, vs, ms, u, h => by
    cases vs with
    | nil => exact absurd (h.nil_iff.mp rfl) (by simp)
    | cons p vs =>
      obtain ⟨g0, v0⟩ := p
      obtain ⟨u1, u2, rfl, rfl, a, t⟩ := h.uncons
      by_cases q : g0 = f
      · subst q
        refine ⟨u1, uy ++ u2, ?_, ?_⟩
        · rw [putF, if_pos rfl, putFM, if_pos rfl]
          exact .cons hy t
        · rw [List.append_assoc]
          exact List.Perm.append_left _ List.perm_append_comm
      · obtain ⟨ud, u', r, p⟩ := RelF.put (f := f) hy t
        refine ⟨ud, u1 ++ u', ?_, ?_⟩
        · rw [putF, if_neg q, putFM, if_neg q]
          exact .cons a r
        · rw [List.append_assoc]
          exact (List.perm_append_comm_assoc ud u1 u').trans (p.append_left u1)
theorem RelF.allFz : ∀ {vs : List (Str × V)} {ds : List (Str × D)} {ms : List M} {u : List Addr}, RelF K G H vs ds ms u → ms.all isFz = true → FzF K G vs ds ∧ u = []
  | _, _, _, _, .fz h, _ => ⟨h, rfl⟩
  | _, _, _, _, .cons h t, e => by
    rw [List.all_cons, Bool.and_eq_true] at e
    have := isFz_eq e.1
    subst this
    obtain ⟨h1, rfl⟩ := RelF.allFz t e.2
    cases h with
    | fz h => exact ⟨.cons h h1, rfl⟩
theorem RelF.norm {vs : List (Str × V)} {ds : List (Str × D)} {ms : List M} (h : RelF K G H vs ds ms u) : RelF K G H vs ds (normM ms) u := by
  unfold normM
  split
  · rename_i e
    obtain ⟨h1, rfl⟩ := h.allFz e
    exact .fz h1
  · exact h
theorem RelF.length : ∀ {vs : List (Str × V)} {ds : List (Str × D)} {ms : List M} {u : List Addr}, RelF K G H vs ds ms u → vs.length = ds.length
  | _, _, _, _, .fz h => by
    have key : ∀ {vs : List (Str × V)} {ds : List (Str × D)}, FzF K G vs ds → vs.length = ds.length := by
      intro vs
      induction vs with
      | nil => intro ds h; cases h; rfl
      | cons v vs ih => intro ds h; cases h with | cons _ t => rw [List.length_cons, List.length_cons, ih t]
    exact key h
  | _, _, _, _, .cons _ t => congrArg (· + 1) (RelF.length t)
def fStF (cs : List Str) (f : Str) (os : List OR) (e : Env) : Fl := match os with
  | [v, .slot j] => (match own v e with
    | some (d, m, e1) => (match e1[j]? with
      | some (some (.val (.ins c fs) (.nd true ms))) => if c ∈ cs ∧ fs.length < 1000 then .nx (e1.set j (some (.val (.ins c (putFM f d m fs ms).1) (.nd true (normM (putFM f d m fs ms).2))))) else .no
      | _ => .no)
    | none => .no)
  | _ => .no
def sStF (cs : List Str) (f : Str) (v o : SE) : SS := sBind (sCons v (sCons o sNil)) (fStF cs f)
theorem snds_stF {cs : List Str} {f : Str} {ta tv : TE} {v o : SE} (hc : ∀ c ∈ cs, Cls K (He.ga K c) ∧ NoAttr K (He.ga K c) f) (hv : Snd K T (rE K) W tv v) (ho : Snd K T (rE K) W ta o) : SndS K T ro W (sFld K ta tv f) (sStF cs f v o) :=
  show SndS K T ro W (fun E σ H => tCons tv (tCons ta tNil) σ H fun vs H2 => match vs with
    | [y, x] => ∃ a C dx fs, x = .ref a ∧ H2 a = some (.ins C dx fs) ∧ Cls K C ∧ NoAttr K C f ∧ fs.length < 1000 ∧ E.nx σ (upd H2 a (.ins C dx (putF f y fs)))
    | _ => False) _ from
  snds_bind (tk := fun vs E σ H2 => match vs with
    | [y, x] => ∃ a C dx fs, x = .ref a ∧ H2 a = some (.ins C dx fs) ∧ Cls K C ∧ NoAttr K C f ∧ fs.length < 1000 ∧ E.nx σ (upd H2 a (.ins C dx (putF f y fs)))
    | _ => False) (snd_cons hv (snd_cons ho snd_nil)) fun σ G H vs os u env U E w hr r p => by
    unfold fStF at p
    split at p
    · rename_i ov j
      obtain ⟨y, x, u1, u2, rfl, rfl, h1, h2⟩ := ras_two hr
      obtain ⟨hx, rfl⟩ := h2
      rw [List.append_nil] at w p
      split at p
      · rename_i d m e1 ho
        obtain ⟨G1, u3, U1, m1, hy, r1⟩ := own_ok w h1 r ho
        split at p
        · rename_i c fs ms he
          split at p
          · rename_i hcl
            obtain ⟨c1, c2⟩ := hc c hcl.1
            obtain ⟨x', ux, Ux, k1, k2, k3, k4⟩ := r1.takeV he
            have : x' = x := by
              have z := k1.symm.trans hx
              cases z; rfl
            subst this
            cases k2 with
            | @ins a dx _ vs _ _ uf ha hdx ff =>
              refine ⟨a, _, dx, vs, rfl, ha, c1, c2, by rw [ff.length]; exact hcl.2, ?_⟩
              have w1 : Wf G1 H ((a :: dx :: uf) ++ Ux ++ u3) := m1.wf.perm ((k4.symm.append_left u3).trans List.perm_append_comm)
              have nd1 := (List.nodup_append.mp (List.nodup_append.mp w1.nd).1)
              have aU : a ∈ u3 ++ U1 := by
                rw [List.mem_append]; right
                exact k4.mem_iff.mp (by simp)
              have mw := Mv.write m1.wf (o := .ins (He.ga K c) dx (putF f y vs)) aU
              have na : ∀ b, (b ∈ uf ∨ b = dx ∨ b ∈ Ux ∨ b ∈ u3) → b ≠ a := fun b hb z => by
                subst z
                rcases hb with hb | hb | hb | hb
                · exact (List.nodup_cons.mp nd1.1).1 (by simp [hb])
                · exact (List.nodup_cons.mp nd1.1).1 (by simp [hb])
                · exact w1.left.apart (by simp) hb
                · exact w1.apart (by simp) hb
              have st : ∀ b, (b ∈ uf ∨ b = dx ∨ b ∈ Ux ∨ b ∈ u3) → upd H a (.ins (He.ga K c) dx (putF f y vs)) b = H b := fun b hb => upd_ne (na b hb)
              obtain ⟨ud, u', rf, pf⟩ := RelF.put (f := f) (hy.mono (H' := upd H a (.ins (He.ga K c) dx (putF f y vs))) (Le.refl _) fun b hb => st b (.inr (.inr (.inr hb)))) (ff.mono (H' := upd H a (.ins (He.ga K c) dx (putF f y vs))) (Le.refl _) fun b hb => st b (.inl hb))
              have rel : RelD K G1 (upd H a (.ins (He.ga K c) dx (putF f y vs))) (.ref a) (.ins c (putFM f d m fs ms).1) (.nd true (normM (putFM f d m fs ms).2)) (a :: dx :: u') := .ins upd_same ((st dx (.inr (.inl rfl))).trans hdx) rf.norm
              have r2 := Rl.back rel k1 (k3.mono (Le.refl _) fun b hb => st b (.inr (.inr (.inl hb)))) (get_lt he)
              have pm : (ud ++ ((a :: dx :: u') ++ Ux)).Perm (u3 ++ U1) := by
                refine List.Perm.trans ?_ (k4.append_left u3)
                refine List.Perm.trans (l₂ := (a :: dx :: (ud ++ u')) ++ Ux) ?_ ?_
                · rw [← List.append_assoc]
                  refine List.Perm.append_right _ ?_
                  exact List.perm_middle.trans (List.perm_middle.cons a)
                · refine List.Perm.trans ((((pf.cons dx).cons a)).append_right Ux) ?_
                  show ((a :: dx :: (uf ++ u3)) ++ Ux).Perm (u3 ++ ((a :: dx :: uf) ++ Ux))
                  rw [← List.append_assoc u3]
                  refine List.Perm.append_right _ ?_
                  exact (List.perm_append_comm (l₁ := a :: dx :: uf) (l₂ := u3))
              exact p σ G1 _ _ ((m1.trans mw).trans ((Mv.forget (mw.wf.perm pm.symm)).permL pm)) r2 Ro.refl
          · exact p.elim
        · exact p.elim
      · exact p.elim
    · exact p.elim
def sDnew (t : Bool) : SE := fun e => .ok (.tmp (if t then .dit [] else .dic []) (.nd true [])) e
open PyProof.Rows PySem.Spec in
theorem fn_V {Pg : Program} {wd : World} {mg : Str → Option Value} {base : Heap} {x qual : Str} {params : Arguments} {body : List Stmt} {scope : Scope} {dvs : List V} {kws : List (Str × V)} {f : Addr} {fd : FuncData} {N ps : List Str} {k n nl : Nat} {io : List Bool} {s : SS} {F : Env → Rf}
    (Fn : FunD K x qual params body scope dvs kws f fd) (Sc : FnScope N ps scope) (hF : F = fnS io nl s) (hn : io.length = n) (hp : ps.length = n) (hN : N.length = n + nl)
    (hb : ∀ (cdv : Value) (A : Around) (outer : List PySem.Env) (sh : Shared) (H : Hp) (E : XK), Room k (A.deeper (envOfC qual scope sh.heap.objs.size f cdv)) → A.guards = some [] →
      ∃ t, PSs (cxOf (L2.CX Pg wd) Pg wd K mg base N qual scope f cdv A outer sh H E) body t ∧ SndS K none (ioIx io) (WO E) t s) :
    FnG Pg wd K mg base (L2.CX Pg wd) (k + 1) f fd ps (spV K n F) := by
  subst hF
  refine Nd.fng_ok Fn Sc (fun vs H Q E h => by rw [hp]; exact h.1) (fun cdv A outer sh H vs Q E hr hg h => ?_)
  obtain ⟨t, pt, ht⟩ := hb cdv A outer sh H E hr hg
  exact ⟨t, pt, body_ok hn hN ht h⟩
end
end Vs

namespace Vs
open PySem L2
section
variable {K : PySem.W.Frag} {T : CxA} {ro : List Nat} {W W' : WX} {σ σ1 : St} {G H G1 H1 G2 H2 G' H' : Hp} {U U1 U2 U' u u' R : List Addr} {env : Env}
theorem FzK.len {kvs : List (Key × V)} {ds : List (D × D)} (h : FzK K G kvs ds) : kvs.length = ds.length := h.length
end
section
variable {K : PySem.W.Frag}
theorem fa1 {P : Str → Prop} {a : Str} (h : P a) : ∀ c ∈ [a], P c := fun c hc => by simp at hc; subst hc; exact h
theorem fac {P : Str → Prop} {a : Str} {l : List Str} (h : P a) (t : ∀ c ∈ l, P c) : ∀ c ∈ a :: l, P c := fun c hc => (List.mem_cons.mp hc).elim (fun e => e ▸ h) (t c)
theorem faz {P : Str → Prop} : ∀ c ∈ ([] : List Str), P c := fun c hc => by simp at hc
theorem un64 {k : Nat} {A : Around} (r : Room k A) : A.units + 64 < cLine := by have := r.un; omega
theorem un1 {k : Nat} {A : Around} (r : Room k A) : A.units + 1 < cLine := by have := r.un; omega
theorem un0 {k : Nat} {A : Around} (r : Room k A) : A.units < cLine := by have := r.un; omega
abbrev WN : WX := fun _ _ _ _ => False
theorem passC {X : Cx} : ∀ σ, PassesAt (L2.CX X.prog X.w) X σ (WE WN σ) := fun σ => passNo
open PyProof.Rows PySem.Spec in
theorem passF {Pg : Program} {wd : World} {mg : Str → Option Value} {base : Heap} {qual : Str} {scope : Scope} {f : Addr} {N : List Str} {cdv : Value} {A : Around} {outer : List PySem.Env} {sh : Shared} {H : Hp} {E : XK} :
    ∀ σ, PassesAt (L2.CX Pg wd) (cxOf (L2.CX Pg wd) Pg wd K mg base N qual scope f cdv A outer sh H E) σ (WE (WO E) σ) := fun σ => passAtX (passes_call (takes_of rfl rfl rfl rfl) (fun _ _ _ _ h => h))
open PyProof.Rows PySem.Spec in
theorem takesF {Pg : Program} {wd : World} {mg : Str → Option Value} {base : Heap} {qual : Str} {scope : Scope} {f : Addr} {N : List Str} {cdv : Value} {A : Around} {outer : List PySem.Env} {sh : Shared} {H : Hp} {E : XK} :
    Takes (cxOf (L2.CX Pg wd) Pg wd K mg base N qual scope f cdv A outer sh H E) (WO E) := takes_of rfl rfl rfl rfl
def fuel : Env → Nat := fun _ => 1000000
end
end Vs

namespace L2
open PySem PySem.Spec PyProof.Rows
section
variable {X : Cx} {K : PySem.W.Frag}
theorem pt_truthK {a : Expr} {ta : TE} (h : X.K = K) (ha : PE X a ta) (he : ∀ whole, isTrue a X.env whole = (do let v ← whole; standAt a.pos; holding [v] (truthy v))) : PT X a (fun σ H Q => ta σ H fun x H' => ∃ k, TruV K x H' k ∧ Q k H') := h ▸ pt_truth ha he
theorem pe_bmK {o e : Expr} {es : List Expr} {to : TE} {t : TA} {name : Str} {apos cpos : Pos} {T id : String} {r : V → List V → Hp → VK → Prop} (h : X.K = K) (pa : PlainAttrs T) (slot : Slot T name id) (hty : typeOf (.builtin id) = pure (.type "method_descriptor")) (hm : MtR X id r) (ho : PE X o to) (ha : PA X (e :: es) t)
    (hbase : attributeBase o name X.env (eval o X.env) = eval o X.env := by rfl)
    (hfew : ((backTo cpos (starEach (e :: es) X.env)).all (fun x => !x.1) && (backToKw cpos (keywordEach [] X.env)).all (fun x => x.1.isSome)
      && decide ((e :: es).length + ([] : List Keyword).length + (if ([] : List Keyword).isEmpty then 0 else 1) < 30)) = true := by rfl)
    (hline : (apos.endLine == cpos.line) = true := by rfl) (hs : starEach (e :: es) X.env = (false, eval e X.env) :: starEach es X.env := by rfl) (hplain : (backTo cpos (starEach es X.env)).any (·.1) = false := by rfl) :
    PE X (.Call (.Attribute o name apos) (e :: es) [] cpos) (tBM K T r to t) := h ▸ pe_bm pa slot hty hm ho ha hbase hfew hline hs hplain
end
end L2

namespace PySem
open Builtin
end PySem
namespace L2
open PySem PySem.Spec PyProof.Rows
end L2

namespace L2
open PySem PySem.Spec PyProof.Rows
section
variable {X : Cx} {K : PySem.W.Frag}
end
end L2
namespace Vs
open PySem L2
section
variable {K : PySem.W.Frag} {T : CxA} {ro : List Nat} {W W' : WX} {σ σ1 : St} {G H G1 H1 G2 H2 G' H' : Hp} {U U1 U2 U' u u' R : List Addr} {env : Env}
def Finds (te : TE) (σ : St) (G : Hp) (a : Addr) : Prop := ∀ G' H' Q, Le G G' → Same G' H' → Q (.ref a) H' → te σ H' Q
theorem FzF.look {f : Str} {d : D} : ∀ {vs : List (Str × V)} {ds : List (Str × D)}, FzF K G vs ds → ds.lookup f = some d → ∃ v, vs.lookup f = some v ∧ Fz K G v d
  | _, _, .nil, e => by simp at e
  | _, _, .cons (f := g) h t, e => by
    simp only [List.lookup_cons] at e ⊢
    split at e
    · cases e; exact ⟨_, rfl, h⟩
    · exact FzF.look t e
theorem Finds.mono {te : TE} {a : Addr} (h : Finds te σ G a) (g : Le G G') : Finds te σ G' a := fun G2 H2 Q g2 s q => h G2 H2 Q (g.trans g2) s q
theorem unlock_rl {a : Addr} {kvs : List (Key × V)} {od : Obj} {σ' : St} {e : Env} (hd : G' a = some (.frz od (.dK kvs))) (w : Wf G' H' U') (r : Rl K T G' H' σ' e U') : Rl K T (upd G' a (.dK kvs)) (upd H' a (.dK kvs)) σ' e U' :=
  r.mono (le_unlock (.inl ⟨_, rfl⟩) hd) fun b hb => upd_ne fun z => by rw [z] at hb; exact w.notG hb hd
theorem PostS.locked {a : Addr} {kvs : List (Key × V)} {od : Obj} {E : Ends} {r : Fl} (hd : G a = some (.dK kvs)) (w : Wf G H U) (p : PostS K T ro W σ G H U E r) :
    PostS K T ro W σ (upd G a (.frz od (.dK kvs))) (upd H a (.frz od (.dK kvs))) U ⟨fun σ' H' => H' a = some (.frz od (.dK kvs)) ∧ E.nx σ' (upd H' a (.dK kvs)), fun v H' => H' a = some (.frz od (.dK kvs)) ∧ E.rt v (upd H' a (.dK kvs)), fun σ' H' => H' a = some (.frz od (.dK kvs)) ∧ E.bk σ' (upd H' a (.dK kvs)), fun σ' H' => H' a = some (.frz od (.dK kvs)) ∧ E.ct σ' (upd H' a (.dK kvs))⟩ r := by
  have hu : (∃ k, HO.dK kvs = .dK k) ∨ ∃ k, HO.dK kvs = .dT k := .inl ⟨_, rfl⟩
  have ml := Mv.lock (od := od) w hu hd
  cases r with
  | nx e =>
    intro σ' G' H' U' m r' o
    obtain ⟨h1, m'⟩ := Mv.unlock hu hd w m
    exact ⟨m.wf.gh _ _ h1, p σ' _ _ U' m' (unlock_rl h1 m.wf r') o⟩
  | rt d mm e =>
    intro v σ' G' H' u U' m h r' o
    obtain ⟨h1, m'⟩ := Mv.unlock hu hd w m
    exact ⟨m.wf.gh _ _ h1, p v σ' _ _ u U' m' (RelD.mono (le_unlock hu h1) (fun b hb => upd_ne fun z => by rw [z] at hb; exact m.wf.notG (List.mem_append_left _ hb) h1) h) (unlock_rl h1 m.wf.right r') o⟩
  | bk e =>
    intro σ' G' H' U' m r' o
    obtain ⟨h1, m'⟩ := Mv.unlock hu hd w m
    exact ⟨m.wf.gh _ _ h1, p σ' _ _ U' m' (unlock_rl h1 m.wf r') o⟩
  | ct e =>
    intro σ' G' H' U' m r' o
    obtain ⟨h1, m'⟩ := Mv.unlock hu hd w m
    exact ⟨m.wf.gh _ _ h1, p σ' _ _ U' m' (unlock_rl h1 m.wf r') o⟩
  | ex c w' e => exact fun dx v σ' G' H' U' m h1 h2 r' o => p dx v σ' G' H' U' (ml.trans m) h1 h2 r' o
  | no => exact p
theorem Post.locked {a : Addr} {kvs : List (Key × V)} {od : Obj} {Q : VK} {r : Rs OR} (hd : G a = some (.dK kvs)) (w : Wf G H U) (p : Post K T (rE K) W σ G H U r Q) :
    Post K T (rE K) W σ (upd G a (.frz od (.dK kvs))) (upd H a (.frz od (.dK kvs))) U r (fun v H' => H' a = some (.frz od (.dK kvs)) ∧ Q v (upd H' a (.dK kvs))) := by
  have hu : (∃ k, HO.dK kvs = .dK k) ∨ ∃ k, HO.dK kvs = .dT k := .inl ⟨_, rfl⟩
  have ml := Mv.lock (od := od) w hu hd
  cases r with
  | ok o e =>
    intro v G' H' u U' m h r'
    obtain ⟨h1, m'⟩ := Mv.unlock hu hd w m
    exact ⟨m.wf.gh _ _ h1, p v _ _ u U' m' (h.mono (le_unlock hu h1) (fun b hb => upd_ne fun z => by rw [z] at hb; exact m.wf.notG (List.mem_append_left _ hb) h1)) (unlock_rl h1 m.wf.right r')⟩
  | ex c w' e => exact fun dx v G' H' U' m h1 h2 r' => p dx v G' H' U' (ml.trans m) h1 h2 r'
  | no => exact p
end
end Vs

namespace L2
open PySem PySem.Spec PyProof.Rows
end L2
namespace Vs
open PySem L2
section
variable {K : PySem.W.Frag} {T : CxA} {ro : List Nat} {W W' : WX} {σ σ1 : St} {G H G1 H1 G2 H2 G' H' : Hp} {U U1 U2 U' u u' R : List Addr} {env : Env}
theorem fzl_ints : ∀ {ns : List Int}, FzL K G (ns.map V.int) (ns.map D.int)
  | [] => .nil
  | n :: ns => .cons (.int n) fzl_ints
end
end Vs

namespace L2
open PySem PySem.Spec PyProof.Rows
section
variable {X : Cx} {K : PySem.W.Frag}
end
section
variable {K : PySem.W.Frag} {x qual : Str} {params : Arguments} {body : List Stmt} {scope : Scope} {kws : List (Str × V)} {f : Addr} {fd : FuncData} {ps : List Str}
end
section
variable {X : Cx} {K : PySem.W.Frag}
def rRepN (K : PySem.W.Frag) : R2 := fun x y H Q => ∃ l k xs, x = .ref l ∧ y = .int k ∧ SqT K H l xs ∧ xs ≠ [] ∧ 2 ≤ k ∧ k ≤ 1000 ∧ xs.length ≤ 1000 ∧ NewT (List.replicate k.toNat xs).flatten H Q
theorem op_repN (hK : X.K = K) : OpR X (binaryOp .Mult) (rRepN K) := by
  subst hK
  intro pins s σ H x y v u Q I rx ry h
  obtain ⟨l, k, xs, rfl, rfl, hT, hne, g1, g2, hz, q⟩ := h
  cases rx
  obtain ⟨t, rfl⟩ := ry
  obtain ⟨its, r, ⟨⟨cls, dd, data, sl⟩, ho, hc, n, hd⟩, hs⟩ := I.tuple hT
  simp only at hc hd
  subst hc hd
  have el : its.length = xs.length := r.length.symm
  have ie : its.toArray.isEmpty = false := by
    cases its with
    | nil => exact absurd (List.eq_nil_of_length_eq_zero el.symm) hne
    | cons a b => rfl
  have es : its.toArray.size = xs.length := by rw [List.size_toArray, el]
  have bnd : ((its.toArray.size : Nat) : Int) * k ≤ 1000000 := by
    rw [es]
    have a1 := Int.mul_le_mul_of_nonneg_right (show ((xs.length : Nat) : Int) ≤ 1000 by omega) (show (0 : Int) ≤ k by omega)
    omega
  have fl : (List.replicate k.toNat its).flatten.length ≤ sizeLine := by
    rw [PyProof.Rows.lm_len_rep_flat, el, sizeLine_eq]
    have a1 : k.toNat * xs.length ≤ 1000 * 1000 := Nat.mul_le_mul (by omega) hz
    omega
  have d0 : (decide (k < -(2 ^ 63)) || decide (k ≥ 2 ^ 63)) = false := by simp; omega
  have d1 : (its.toArray.isEmpty || k == 1) = false := by
    rw [ie, Bool.false_or]
    exact beq_eq_false_iff_ne.mpr (by omega)
  have d2 : (decide (k ≤ 0) || its.toArray.isEmpty) = false := by
    rw [ie, Bool.or_false]
    exact decide_eq_false (by omega)
  have d4 : Builtin.Tuple.tupleTooMany (((its.toArray.size : Nat) : Int) * k) = false := by
    unfold Builtin.Tuple.tupleTooMany
    rw [sizeLine_eq]
    exact decide_eq_false (by omega)
  have tl : s.TypeIs (.ref l) "tuple" := ⟨_, ho, rfl⟩
  refine wpAny_binaryOp_repeat_ref (T := "tuple") (U := "int") (by decide) tl (fun s' => typeIs_int s' k t) noFill_tuple_mul F.fills_int_mul F.slot_int_rmul repeat_tuple F.slot_int_index.lookup
    (call_meets F.slot_int_rmul (typeIs_int s k t) F.entry_int_rmul (F.args_int_rmul_2 _ _) (int_rmul_tuple k t l its.toArray n dd sl) ⟨ho, rfl, tl, ?_⟩)
  refine call_meets F.slot_tuple_mul tl F.entry_tuple_mul (F.args_tuple_mul_2 _ _) (tuple_mulW l its.toArray n dd sl k t d0 d1 d2 (by omega) d4 (by rw [size_rep, List.size_toArray]; exact fl)) ⟨ho, ?_⟩
  rw [size_rep]
  refine newT_ok (t' := s.toks) I (fun b w e => Heap.get?_push_of_some _ e) (Heap.get?_push_size _ rfl) rfl rfl rfl (r.rep k.toNat) ?_ q
  rw [PyProof.Rows.lm_len_rep_flat, ← el, ← PyProof.Rows.lm_len_rep_flat]
  exact fl
def rMulU (K : PySem.W.Frag) : R2 := orR (rI CMulW fun i j => .int (i * j)) (rRepN K)
theorem op_mulU (hK : X.K = K) : OpR X (binaryOp .Mult) (rMulU K) := op_orR op_mulW (op_repN hK)
end
end L2
namespace Vs
open PySem L2
section
variable {K : PySem.W.Frag} {T : CxA} {ro : List Nat} {W W' : WX} {σ σ1 : St} {G H G1 H1 G2 H2 G' H' : Hp} {U U1 U2 U' u u' R : List Addr} {env : Env}
def gMulU : List D → Option (D × M)
  | [.int i, .int j] => if i.natAbs.log2 + j.natAbs.log2 < 1000000 then some (.int (i * j), .fz) else none
  | [.tup l, .int k] => if l ≠ [] ∧ 2 ≤ k ∧ k ≤ 1000 ∧ l.length ≤ 1000 then some (.tup (List.replicate k.toNat l).flatten, .fz) else none
  | _ => none
theorem FzL.rep {vs : List V} {ds : List D} (h : FzL K G vs ds) : ∀ k : Nat, FzL K G (List.replicate k vs).flatten (List.replicate k ds).flatten
  | 0 => .nil
  | k + 1 => by
    rw [List.replicate_succ, List.flatten_cons, List.replicate_succ, List.flatten_cons]
    exact h.append (FzL.rep h k)
theorem mk_mulU : MkK K (l2 (rMulU K)) gMulU := fun vs ds z m G H s h e Q q => by
  unfold gMulU at e
  split at e
  · split at e
    · rename_i hc
      cases e
      obtain ⟨x, y, rfl, h1, h2⟩ := fzl_two h
      cases h1; cases h2
      exact .inl ⟨_, _, rfl, rfl, hc, mk_old (vs := []) s (.int _) q⟩
    · cases e
  · split at e
    · rename_i hc
      cases e
      obtain ⟨x, y, rfl, h1, h2⟩ := fzl_two h
      cases h1 with
      | @tup a va da e1 f1 =>
      cases h2
      refine .inr ⟨a, _, va, rfl, rfl, e1.sq s, fun z => hc.1 ?_, hc.2.1, hc.2.2.1, by rw [f1.length]; exact hc.2.2.2, mk_tup s (f1.rep _) q⟩
      subst z
      cases f1
      rfl
    · cases e
  · cases e
theorem Paired.sq {ps : List Addr} {kvs : List (Key × V)} (s : Same G H) (h : Paired (fun p kv => SqT K G p [kV kv.1, kv.2]) ps kvs) : Paired (fun p (kv : Key × V) => SqT K H p [kV kv.1, kv.2]) ps kvs := Paired.mapP h fun _ _ q => q.imp (Le.of s).rdTup id
end
end Vs

namespace L2
open PySem PySem.Spec PyProof.Rows
theorem walk_ofV {l : PySem.W.OpenLaw} {n k : Nat} {q : Program} {loose : List Str} {XP : (Str → Option Value) → Heap → Prop} {YP : World → Heap → Prop} {d : DefRec} {x : Str}
    (hn : l.most = some n) (hn2 : n ≤ sizeLine) (hdf : d.params.defaults = []) (hr : Room k callerA)
    (F : ∀ (w : World) (mg : Str → Option Value) (fa : Addr) (h : Heap), YP w h → h.Ns mainGlobals mg → mg d.name = some (.ref fa) →
      ∃ (K : PySem.W.Frag) (fd : FuncData) (sp : Sp), K.In h ∧ (∀ (s : Shared) (u : Value), BindsTo s fd ⟨[u], []⟩ [(x, u)]) ∧
        (∀ (H : Hp) (a : Addr) (ns : List Int), ns.length ≤ n → SqL K H a (ns.map V.int) → sp [.ref a] H (fun v _ => v = .bl true) fun _ _ _ => False) ∧
        ∀ base : Heap, K.In base → base.Ns mainGlobals mg → FnG l.prog w K mg base (L2.CX l.prog w) k fa fd [x] sp) :
    PySem.W.WalkO q loose XP YP l.row.toRowW d [] (fun f vs => PySem.call f vs) :=
  Att.attach_call hn hdf fun w s₀ s₁ mg mb fa o pm cd doc a vs ns G Y _ _ _ hmg hobj hints hlen hg => by
    obtain ⟨K, fd, sp, KX, hb, hsp, hF⟩ := F w mg fa _ Y G.T.g hmg
    refine law_g KX G.T.g G.T.b G.T.builtins G.T.nolimit hg hobj hints (Nat.le_trans hlen hn2) hr hF hb (fun H _ hS => hsp H a ns hlen hS) fun H e s' h => ?_
    obtain ⟨a, B, H', cls, d, _, _, _, _, _, _, _, z⟩ := h
    exact z.elim
end L2
namespace Vs
open PySem L2
def scr0 (ns : List Int) : Env := [some (.val (.scr (ns.map .int)) .fz)]
theorem law_sp {K : PySem.W.Frag} {F : Env → Rf} {H : Hp} {a : Addr} {ns : List Int} (hS : SqL K H a (ns.map V.int)) (h : ∃ m ps, F (scr0 ns) = .ok (.bl true) m ps) : spV K 1 F [.ref a] H (fun v _ => v = .bl true) fun _ _ _ => False := by
  obtain ⟨m, ps, e⟩ := h
  have f : Fz K H (.ref a) (.scr (ns.map .int)) := .scr hS fzl_ints
  refine ⟨rfl, H, [], scr0 ns, wf0 fun _ _ h => h, ⟨[], ?_, List.Perm.refl _⟩, ?_⟩
  · have z := RlL.val (σ := []) (env := []) (U := []) (K := K) (T := none) (G := H) (H := H) (.fz f) .nil
    exact z
  · rw [e]
    intro v G' H' u U' _ r _
    cases r with
    | fz f => cases f; rfl
end Vs

namespace Vs
open PySem L2
theorem Rs.bind_ok {α β : Type} (a : α) (e : Env) (k : α → Env → Rs β) : (Rs.ok a e).bind k = k a e := rfl
theorem Rs.bind_no {α β : Type} (k : α → Env → Rs β) : (Rs.no : Rs α).bind k = .no := rfl
theorem Rs.bind_ex {α β : Type} (c : Str) (w : D) (e : Env) (k : α → Env → Rs β) : (Rs.ex c w e : Rs α).bind k = .ex c w e := rfl
def Small (i : Int) : Prop := i.natAbs.log2 < 400000
theorem small_of {i : Int} (h1 : -9223372036854775808 < i) (h2 : i < 9223372036854775808) : Small i := by
  unfold Small
  have h : i.natAbs < 2 ^ 63 := by omega
  by_cases z : i.natAbs = 0
  · rw [z]; decide
  · have := (Nat.log2_lt z).mpr h
    omega
theorem gMulU_int {i j : Int} (h1 : Small i) (h2 : Small j) : gMulU [.int i, .int j] = some (.int (i * j), .fz) := by
  unfold Small at h1 h2
  show (if _ then _ else _) = _
  rw [if_pos (by omega)]
theorem forL_cons (f : SG) (b : SS) (d : D) (ds : List D) (e : Env) : forL f b (d :: ds) e = match f d .fz e with
    | none => .no
    | some e1 => (match b e1 with
      | .nx e2 => forL f b ds e2
      | .ct e2 => forL f b ds e2
      | .bk e2 => .nx e2
      | r => r) := rfl
theorem lcL_cons (vs : List Nat) (f : SG) (tt : ST) (te : SE) (d : D) (ds acc : List D) (e : Env) : lcL vs f tt te (d :: ds) acc e = match f d .fz e with
    | none => .no
    | some e1 => (match tt e1 with
      | .ok true e2 => (match te e2 with
        | .ok o e3 => (match cut o e3 with
          | some (z, e4) => if acc.length < lim then lcL vs f tt te ds (acc ++ [z]) (wipeE e4 vs) else .no
          | none => .no)
        | _ => .no)
      | .ok false e2 => lcL vs f tt te ds acc (wipeE e2 vs)
      | _ => .no) := rfl
theorem lcL_inv {vs : List Nat} {f : SG} {tt : ST} {te : SE} (I : Nat → List D → Env → Prop) : ∀ (ds : List D) (i : Nat) (acc : List D) (e : Env), acc.length + ds.length ≤ lim → acc.length ≤ i → I i acc e →
    (∀ (k : Nat) (d : D) (acc : List D) (e : Env), ds[k]? = some d → I (i + k) acc e → ∃ e1 b e2, f d .fz e = some e1 ∧ tt e1 = .ok b e2 ∧ (b = false → I (i + k + 1) acc (wipeE e2 vs)) ∧ (b = true → ∃ o e3 z e4, te e2 = .ok o e3 ∧ cut o e3 = some (z, e4) ∧ I (i + k + 1) (acc ++ [z]) (wipeE e4 vs))) →
    ∃ acc' e', lcL vs f tt te ds acc e = .ok acc' e' ∧ I (i + ds.length) acc' e'
  | [], i, acc, e, _, _, h, _ => ⟨acc, e, rfl, h⟩
  | d :: ds, i, acc, e, hl, hi, h, step => by
    obtain ⟨e1, b, e2, h1, h2, h3, h4⟩ := step 0 d acc e rfl h
    have next : ∀ (k : Nat) (d' : D) (acc' : List D) (e'' : Env), ds[k]? = some d' → I (i + 1 + k) acc' e'' → ∃ e1 b e2, f d' .fz e'' = some e1 ∧ tt e1 = .ok b e2 ∧ (b = false → I (i + 1 + k + 1) acc' (wipeE e2 vs)) ∧ (b = true → ∃ o e3 z e4, te e2 = .ok o e3 ∧ cut o e3 = some (z, e4) ∧ I (i + 1 + k + 1) (acc' ++ [z]) (wipeE e4 vs)) := fun k d' acc' e'' hk hI => by
      have z := step (k + 1) d' acc' e'' (by simpa using hk) (by rw [show i + (k + 1) = i + 1 + k by omega]; exact hI)
      rw [show i + (k + 1) + 1 = i + 1 + k + 1 by omega] at z
      exact z
    rw [List.length_cons] at hl
    cases b with
    | false =>
      obtain ⟨acc', e', h5, h6⟩ := lcL_inv I ds (i + 1) acc _ (by omega) (by omega) (h3 rfl) next
      refine ⟨acc', e', ?_, by rw [List.length_cons, show i + (ds.length + 1) = i + 1 + ds.length by omega]; exact h6⟩
      rw [lcL_cons, h1]
      dsimp only
      rw [h2]
      exact h5
    | true =>
      obtain ⟨o, e3, z, e4, h5, h6, h7⟩ := h4 rfl
      obtain ⟨acc', e', h8, h9⟩ := lcL_inv I ds (i + 1) (acc ++ [z]) _ (by rw [List.length_append]; simp only [List.length_cons, List.length_nil]; omega) (by rw [List.length_append]; simp only [List.length_cons, List.length_nil]; omega) h7 next
      refine ⟨acc', e', ?_, by rw [List.length_cons, show i + (ds.length + 1) = i + 1 + ds.length by omega]; exact h9⟩
      rw [lcL_cons, h1]
      dsimp only
      rw [h2]
      dsimp only
      rw [h5]
      dsimp only
      rw [h6]
      dsimp only
      rw [if_pos (by omega)]
      exact h8
theorem rngL_len (lo : Int) (n : Nat) : (rngL lo n).length = n := by unfold rngL; simp
theorem rngL_get {lo : Int} {n i : Nat} {d : D} (h : (rngL lo n)[i]? = some d) : i < n ∧ d = .int (lo + i) := by
  unfold rngL at h
  rw [List.getElem?_map, Option.map_eq_some_iff] at h
  obtain ⟨j, h1, rfl⟩ := h
  obtain ⟨h2, h3⟩ := List.getElem?_eq_some_iff.mp h1
  rw [List.length_range] at h2
  rw [List.getElem_range] at h3
  subst h3
  exact ⟨h2, rfl⟩
theorem sLc_eq (N : Nat) (vs : List Nat) (s : Env → Rs (List D)) (f : SG) (tt : ST) (te : SE) (e : Env) : sLc N vs s f tt te e = (s e).bind fun ds e1 => sLcK N vs f tt te ds e1 := rfl
end Vs

namespace Vs
open PySem L2
abbrev stM : M := .nd true []
abbrev vz (d : D) : Option Slt := some (.val d .fz)
abbrev vo (d : D) : Option Slt := some (.val d stM)
def runF (io : List Bool) : Fl → Rf
  | .rt d m e => .ok d m (outs io e)
  | .nx e => .ok .non .fz (outs io e)
  | .ex c w e => .ex c w (outs io e)
  | _ => .no
theorem fnS_run {io : List Bool} {nl : Nat} {s : SS} {a : Env} (h : a.length = io.length) : fnS io nl s a = runF io (s (a ++ List.replicate nl none)) := by
  unfold fnS
  rw [if_pos h]
  cases s (a ++ List.replicate nl none) <;> rfl
def Sq (Q : Fl → Prop) (b : SS) : Fl → Prop
  | .nx e => Q (b e)
  | r => Q r
def Fq (io : List Bool) (P : Rf → Prop) (f : Fl) : Prop := P (runF io f)
def Bq (N : Env → Prop) (Q : Fl → Prop) : Fl → Prop
  | .nx e => N e
  | .ct e => N e
  | .bk e => Q (.nx e)
  | r => Q r
theorem q_ev {α : Type} {Q : α → Prop} {x y : α} (h : x = y) (k : Q y) : Q x := h ▸ k
theorem q_fn {P : Rf → Prop} {io : List Bool} {nl : Nat} {s : SS} {a : Env} (h : a.length = io.length) (k : Fq io P (s (a ++ List.replicate nl none))) : P (fnS io nl s a) := by
  rw [fnS_run h]; exact k
theorem q_seq {Q : Fl → Prop} {a b : SS} {e : Env} (k : Sq Q b (a e)) : Q (sSeq a b e) := by
  unfold sSeq; revert k; cases a e <;> exact fun k => k
theorem q_if {Q : Fl → Prop} {c : ST} {s t : SS} {e e1 : Env} {b : Bool} (h : c e = .ok b e1) (k1 : b = true → Q (s e1)) (k2 : b = false → Q (t e1)) : Q (sIfS c s t e) := by
  unfold sIfS sBind; rw [h]; cases b
  · exact k2 rfl
  · exact k1 rfl
theorem q_for {Q : Fl → Prop} {it : Env → Rs (List D)} {f : SG} {b : SS} {e e1 : Env} {ds : List D} (h : it e = .ok ds e1) (k : Q (forL f b ds e1)) : Q (sFor it f b e) := by
  unfold sFor sBind; rw [h]; exact k
theorem q_forL {Q : Fl → Prop} {f : SG} {b : SS} (I : Nat → Env → Prop) (ds : List D) (e : Env) (h0 : I 0 e)
    (step : ∀ i d e, ds[i]? = some d → I i e → ∃ e1, f d .fz e = some e1 ∧ Bq (I (i + 1)) Q (b e1)) (fin : ∀ e, I ds.length e → Q (.nx e)) : Q (forL f b ds e) := by
  have gen : ∀ (ds' : List D) (k : Nat) (e : Env), I k e → (∀ i d e, ds'[i]? = some d → I (k + i) e → ∃ e1, f d .fz e = some e1 ∧ Bq (I (k + i + 1)) Q (b e1)) → (∀ e, I (k + ds'.length) e → Q (.nx e)) → Q (forL f b ds' e) := by
    intro ds'
    induction ds' with
    | nil => intro k e h _ fin; exact fin e h
    | cons d ds' ih =>
      intro k e h step fin
      obtain ⟨e1, h1, h2⟩ := step 0 d e rfl h
      rw [forL_cons, h1]
      have nx : ∀ e2, I (k + 1) e2 → Q (forL f b ds' e2) := fun e2 h3 => ih (k + 1) e2 h3 (fun i d' e' hd hI => by
        have z := step (i + 1) d' e' (by simpa using hd) (by rw [show k + (i + 1) = k + 1 + i by omega]; exact hI)
        rw [show k + (i + 1) + 1 = k + 1 + i + 1 by omega] at z
        exact z) fun e' hI => fin e' (by rw [List.length_cons, show k + (ds'.length + 1) = k + 1 + ds'.length by omega]; exact hI)
      dsimp only
      revert h2
      cases b e1 with
      | nx e2 => exact fun h2 => nx e2 h2
      | ct e2 => exact fun h2 => nx e2 h2
      | bk e2 => exact fun h2 => h2
      | rt d m e2 => exact fun h2 => h2
      | ex c w e2 => exact fun h2 => h2
      | no => exact fun h2 => h2
  refine gen ds 0 e h0 (fun i d e hd hI => ?_) fun e hI => fin e (by rw [Nat.zero_add] at hI; exact hI)
  rw [Nat.zero_add] at hI ⊢
  exact step i d e hd hI
theorem q_while {Q : Fl → Prop} {c : ST} {b : SS} {k : Env → Nat} (I : Env → Prop) (μ : Env → Nat) (e : Env) (h0 : I e) (hf : μ e < k e)
    (step : ∀ e, I e → ∃ t e1, c e = .ok t e1 ∧ (t = true → Bq (fun e2 => I e2 ∧ μ e2 < μ e) Q (b e1)) ∧ (t = false → Q (.nx e1))) : Q (sWhile k c b e) := by
  have gen : ∀ (n : Nat) (e : Env), I e → μ e < n → Q (whL c b n e) := by
    intro n
    induction n with
    | zero => intro e _ h; omega
    | succ n ih =>
      intro e hI hm
      obtain ⟨t, e1, h1, h2, h3⟩ := step e hI
      unfold whL
      rw [h1]
      cases t with
      | false => exact h3 rfl
      | true =>
        have h4 := h2 rfl
        dsimp only
        revert h4
        cases b e1 with
        | nx e2 => exact fun h4 => ih e2 h4.1 (by have := h4.2; omega)
        | ct e2 => exact fun h4 => ih e2 h4.1 (by have := h4.2; omega)
        | bk e2 => exact fun h4 => h4
        | rt d m e2 => exact fun h4 => h4
        | ex c w e2 => exact fun h4 => h4
        | no => exact fun h4 => h4
  exact gen (k e) e h0 hf
theorem ixN_int {n : Nat} {i : Int} (h0 : 0 ≤ i) (h : i < n) : ixN n i = some i.toNat := by
  unfold ixN
  rw [if_pos h0, if_pos h]
theorem ixl0 {a : D} {l : List D} {m : M} : ixD (.lst (a :: l)) m 0 = some (a, isFz (kid m 0)) := by
  show (ixN _ _).bind _ = _
  rw [ixN_int (by omega) (by rw [List.length_cons]; omega)]; rfl
theorem ixl1 {a b : D} {l : List D} {m : M} : ixD (.lst (a :: b :: l)) m 1 = some (b, isFz (kid m 1)) := by
  show (ixN _ _).bind _ = _
  rw [ixN_int (by omega) (by rw [List.length_cons, List.length_cons]; omega)]; rfl
theorem ixl2 {a b c : D} {l : List D} {m : M} : ixD (.lst (a :: b :: c :: l)) m 2 = some (c, isFz (kid m 2)) := by
  show (ixN _ _).bind _ = _
  rw [ixN_int (by omega) (by rw [List.length_cons, List.length_cons, List.length_cons]; omega)]; rfl
theorem ixt0 {a : D} {l : List D} {m : M} : ixD (.tup (a :: l)) m 0 = some (a, isFz (kid m 0)) := by
  show (ixN _ _).bind _ = _
  rw [ixN_int (by omega) (by rw [List.length_cons]; omega)]; rfl
theorem ixt1 {a b : D} {l : List D} {m : M} : ixD (.tup (a :: b :: l)) m 1 = some (b, isFz (kid m 1)) := by
  show (ixN _ _).bind _ = _
  rw [ixN_int (by omega) (by rw [List.length_cons, List.length_cons]; omega)]; rfl
theorem ixt2 {a b c : D} {l : List D} {m : M} : ixD (.tup (a :: b :: c :: l)) m 2 = some (c, isFz (kid m 2)) := by
  show (ixN _ _).bind _ = _
  rw [ixN_int (by omega) (by rw [List.length_cons, List.length_cons, List.length_cons]; omega)]; rfl
end Vs
namespace Vs
open PySem L2
theorem s_nx {Q : Fl → Prop} {b : SS} {e : Env} (k : Q (b e)) : Sq Q b (.nx e) := k
theorem s_rt {Q : Fl → Prop} {b : SS} {d : D} {m : M} {e : Env} (k : Q (.rt d m e)) : Sq Q b (.rt d m e) := k
theorem b_nx {N : Env → Prop} {Q : Fl → Prop} {e : Env} (k : N e) : Bq N Q (.nx e) := k
end Vs
namespace Vs
open PySem L2
theorem q_ift {Q : Fl → Prop} {c : ST} {s t : SS} {e e1 : Env} (h : c e = .ok true e1) (k1 : Q (s e1)) : Q (sIfS c s t e) := q_if h (fun _ => k1) (fun z => nomatch z)
theorem q_iff {Q : Fl → Prop} {c : ST} {s t : SS} {e e1 : Env} (h : c e = .ok false e1) (k1 : Q (t e1)) : Q (sIfS c s t e) := q_if h (fun z => nomatch z) (fun _ => k1)
end Vs

namespace Vs
open PySem L2
def rngI (n : Nat) : List Int := (List.range n).map fun (i : Nat) => (i : Int)
abbrev Gr := List (List Int)
def row (g : Gr) (x : Int) : List Int := g.getD x.toNat []
inductive Rch (g : Gr) (s : Int) : Int → Prop
  | refl : Rch g s s
  | step {x y : Int} : Rch g s x → y ∈ row g x → Rch g s y
theorem Rch.trans {g : Gr} {s x y : Int} (h : Rch g s x) (k : Rch g x y) : Rch g s y := by
  induction k with
  | refl => exact h
  | step _ m ih => exact .step ih m
noncomputable instance (g : Gr) (s x : Int) : Decidable (Rch g s x) := Classical.propDecidable _
noncomputable def reachL (g : Gr) (s : Int) : List Int := (rngI g.length).filter fun x => decide (Rch g s x)
def Wfg (g : Gr) : Prop := ∀ l ∈ g, ∀ x ∈ l, 0 ≤ x ∧ x < g.length
theorem row_mem {g : Gr} (h : Wfg g) {x y : Int} (m : y ∈ row g x) : 0 ≤ y ∧ y < g.length := by
  unfold row at m
  rw [List.getD_eq_getElem?_getD] at m
  cases e : g[x.toNat]? with
  | none => rw [e] at m; simp at m
  | some l => rw [e] at m; exact h l (List.mem_of_getElem? e) y m
theorem Rch.lt {g : Gr} (h : Wfg g) {s x : Int} (h0 : 0 ≤ s) (h1 : s < g.length) (r : Rch g s x) : 0 ≤ x ∧ x < g.length := by
  induction r with
  | refl => exact ⟨h0, h1⟩
  | step _ m _ => exact row_mem h m
theorem Rch.closed {g : Gr} {s : Int} {l : List Int} (hs : s ∈ l) (hc : ∀ x ∈ l, ∀ y ∈ row g x, y ∈ l) {x : Int} (r : Rch g s x) : x ∈ l := by
  induction r with
  | refl => exact hs
  | step _ m ih => exact hc _ ih _ m
def rowsD (g : Gr) : List D := g.map fun l => .tup (l.map .int)
end Vs

namespace Vs
open PySem L2
noncomputable instance : DecidableEq D := fun _ _ => Classical.propDecidable _
def okE : Nat → D → Bool
  | _, .non => true
  | _, .int _ => true
  | _, .str x => PyData.strOk x
  | n + 1, .lst l => l.all (okE n)
  | n + 1, .tup l => l.all (okE n)
  | _, _ => false
theorem toPyL_of {n : Nat} (ih : ∀ d, okE n d = true → ∃ p, toPy d = some p ∧ p.canLay0 = true ∧ p.depth ≤ n + 1) : ∀ l : List D, (∀ d ∈ l, okE n d = true) → ∃ q, toPyL l = some q ∧ PyData.canLayAll0 q = true ∧ PyData.depthAll q ≤ n + 1
  | [], _ => ⟨[], rfl, rfl, by unfold PyData.depthAll; omega⟩
  | d :: l, h => by
    obtain ⟨p, h1, h2, h3⟩ := ih d (h d List.mem_cons_self)
    obtain ⟨q, k1, k2, k3⟩ := toPyL_of ih l fun z hz => h z (List.mem_cons_of_mem _ hz)
    refine ⟨p :: q, by rw [toPyL, h1, k1], ?_, ?_⟩
    · rw [PyData.canLayAll0, h2, k2]; rfl
    · rw [PyData.depthAll]; omega
theorem toPy_of : ∀ (n : Nat) (d : D), okE n d = true → ∃ p, toPy d = some p ∧ p.canLay0 = true ∧ p.depth ≤ n + 1
  | 0, d, h => by
    cases d <;> simp only [okE, Bool.false_eq_true] at h
    · exact ⟨_, rfl, rfl, by unfold PyData.depth; omega⟩
    · exact ⟨_, rfl, rfl, by unfold PyData.depth; omega⟩
    · exact ⟨_, rfl, h, by unfold PyData.depth; omega⟩
  | n + 1, d, h => by
    cases d <;> simp only [okE, Bool.false_eq_true] at h
    · exact ⟨_, rfl, rfl, by unfold PyData.depth; omega⟩
    · exact ⟨_, rfl, rfl, by unfold PyData.depth; omega⟩
    · exact ⟨_, rfl, h, by unfold PyData.depth; omega⟩
    · obtain ⟨q, k1, k2, k3⟩ := toPyL_of (toPy_of n) _ (List.all_eq_true.mp h)
      exact ⟨.tuple q, by rw [toPy, k1]; rfl, k2, by rw [PyData.depth]; omega⟩
    · obtain ⟨q, k1, k2, k3⟩ := toPyL_of (toPy_of n) _ (List.all_eq_true.mp h)
      exact ⟨.list q, by rw [toPy, k1]; rfl, k2, by rw [PyData.depth]; omega⟩
theorem toPy_inj : ∀ (n : Nat) (a b : D) (p q : PyData), okE n a = true → okE n b = true → toPy a = some p → toPy b = some q → (PyData.eqv p q = true ↔ a = b) := by
  have lst : ∀ (n : Nat), (∀ (a b : D) (p q : PyData), okE n a = true → okE n b = true → toPy a = some p → toPy b = some q → (PyData.eqv p q = true ↔ a = b)) → ∀ (l m : List D) (p q : List PyData), l.all (okE n) = true → m.all (okE n) = true → toPyL l = some p → toPyL m = some q → (PyData.eqvAll p q = true ↔ l = m) := by
    intro n ih l
    induction l with
    | nil =>
      intro m p q h1 h2 h3 h4
      cases h3
      cases m with
      | nil => cases h4; simp [PyData.eqvAll]
      | cons y m =>
        rw [toPyL] at h4
        split at h4
        · cases h4; simp [PyData.eqvAll]
        · cases h4
    | cons x l ihl =>
      intro m p q h1 h2 h3 h4
      rw [toPyL] at h3
      split at h3
      · rename_i px pl e1 e2
        cases h3
        cases m with
        | nil => cases h4; simp [PyData.eqvAll]
        | cons y m =>
          rw [toPyL] at h4
          split at h4
          · rename_i py pm e3 e4
            cases h4
            rw [List.all_cons, Bool.and_eq_true] at h1 h2
            rw [PyData.eqvAll, Bool.and_eq_true, ih x y px py h1.1 h2.1 e1 e3, ihl m pl pm h1.2 h2.2 e2 e4, List.cons.injEq]
          · cases h4
      · cases h3
  intro n
  induction n with
  | zero =>
    intro a b p q h1 h2 h3 h4
    cases a <;> simp only [okE, Bool.false_eq_true] at h1 <;> cases b <;> simp only [okE, Bool.false_eq_true] at h2 <;> cases h3 <;> cases h4 <;> simp [PyData.eqv]
  | succ n ih =>
    intro a b p q h1 h2 h3 h4
    cases a <;> simp only [okE, Bool.false_eq_true] at h1 <;> cases b <;> simp only [okE, Bool.false_eq_true] at h2 <;> simp only [toPy, Option.map_eq_some_iff, Option.some.injEq] at h3 h4 <;> (try obtain ⟨p', h3, rfl⟩ := h3) <;> (try obtain ⟨q', h4, rfl⟩ := h4) <;> (try subst h3) <;> (try subst h4) <;>
      first
      | simp [PyData.eqv]; done
      | (rw [PyData.eqv, lst n ih _ _ _ _ h1 h2 h3 h4]; simp)
theorem deq_of {n : Nat} {a b : D} (h1 : okE n a = true) (h2 : okE n b = true) (hn : n ≤ 60) : deq a b = some (decide (a = b)) := by
  obtain ⟨p, e1, c1, d1⟩ := toPy_of n a h1
  obtain ⟨q, e2, c2, d2⟩ := toPy_of n b h2
  have i := toPy_inj n a b p q h1 h2 e1 e2
  have s1 : SeqAt.shaped p = true := by unfold SeqAt.shaped; rw [c1, decide_eq_true (by omega : p.depth ≤ 64)]; rfl
  have s2 : SeqAt.shaped q = true := by unfold SeqAt.shaped; rw [c2, decide_eq_true (by omega : q.depth ≤ 64)]; rfl
  have ii : PyData.eqv p q = decide (a = b) := by
    by_cases h : a = b
    · rw [i.mpr h, decide_eq_true h]
    · rw [decide_eq_false h]
      cases z : PyData.eqv p q with
      | false => rfl
      | true => exact (h (i.mp z)).elim
  unfold deq
  split
  · rename_i x y
    by_cases h : x = y
    · subst h; simp
    · rw [decide_eq_false h, decide_eq_false fun z => h (D.str.inj z)]
  · rw [e1, e2]
    dsimp only
    rw [s1, s2, ii]
    rfl
theorem gEq_of {n : Nat} {a b : D} (h1 : okE n a = true) (h2 : okE n b = true) (hn : n ≤ 60) : gEq [a, b] = some (.bl (decide (a = b))) := by
  show (deq a b).map _ = _
  rw [deq_of h1 h2 hn]; rfl
theorem gNe_of {n : Nat} {a b : D} (h1 : okE n a = true) (h2 : okE n b = true) (hn : n ≤ 60) : gNe [a, b] = some (.bl (!decide (a = b))) := by
  show (deq a b).map _ = _
  rw [deq_of h1 h2 hn]; rfl
theorem gEq_int {i j : Int} : gEq [.int i, .int j] = some (.bl (decide (i = j))) := by
  rw [gEq_of (n := 0) rfl rfl (by omega)]
  by_cases h : i = j
  · subst h; simp
  · rw [decide_eq_false h, decide_eq_false fun z => h (D.int.inj z)]
theorem gNe_int {i j : Int} : gNe [.int i, .int j] = some (.bl (!decide (i = j))) := by
  rw [gNe_of (n := 0) rfl rfl (by omega)]
  by_cases h : i = j
  · subst h; simp
  · rw [decide_eq_false h, decide_eq_false fun z => h (D.int.inj z)]
end Vs

namespace Vs
open PySem L2
noncomputable def dec (P : Prop) : Bool := @decide P (Classical.propDecidable P)
def tyOk (ics : List Str) : D → Bool
  | .ins c _ => decide (c ∈ ics)
  | .htp _ => false
  | d => (tyS d).isSome
def isI : D → Bool
  | .int _ => true
  | _ => false
def isT : D → Bool
  | .tup _ => true
  | _ => false
def isB : D → Bool
  | .bl _ => true
  | _ => false
theorem isi_int {ics : List Str} {d : D} (h : tyOk ics d = true) : gIsi ics [d, .ty "int"] = some (.bl (isI d || isB d)) := by
  cases d with
  | ins c l => show (dIsi _ _ _).map _ = _; unfold dIsi; dsimp only; rw [if_pos (by decide), if_pos (of_decide_eq_true h)]; rfl
  | _ => first | rfl | (simp [tyOk, tyS] at h)
theorem isi_bool {ics : List Str} {d : D} (h : tyOk ics d = true) : gIsi ics [d, .ty "bool"] = some (.bl (isB d)) := by
  cases d with
  | ins c l => show (dIsi _ _ _).map _ = _; unfold dIsi; dsimp only; rw [if_pos (by decide), if_pos (of_decide_eq_true h)]; rfl
  | _ => first | rfl | (simp [tyOk, tyS] at h)
def small : D → Prop
  | .str x => x.length ≤ 1000000
  | .tup l => l.length ≤ 1000000
  | _ => True
def tyN (ics : List Str) : Nat → D → Prop
  | 0, d => tyOk ics d = true ∧ small d
  | n + 1, d => (tyOk ics d = true ∧ small d) ∧ ∀ l, d = .tup l → ∀ x ∈ l, tyN ics n x
theorem tyN.ok {ics : List Str} {n : Nat} {d : D} (h : tyN ics n d) : tyOk ics d = true := by
  cases n with
  | zero => exact h.1
  | succ n => exact h.1.1
theorem tyN.sm {ics : List Str} {n : Nat} {d : D} (h : tyN ics n d) : small d := by
  cases n with
  | zero => exact h.2
  | succ n => exact h.1.2
theorem tyN.kid {ics : List Str} {n : Nat} {l : List D} (h : tyN ics (n + 1) (.tup l)) {x : D} (hx : x ∈ l) : tyN ics n x := h.2 l rfl x hx
theorem tyN.mk {ics : List Str} {n : Nat} {l : List D} (hl : l.length ≤ 1000000) (h : ∀ x ∈ l, tyN ics n x) : tyN ics (n + 1) (.tup l) := ⟨⟨rfl, hl⟩, fun l' e x hx => by cases e; exact h x hx⟩
theorem tyN.flat {ics : List Str} {n : Nat} {d : D} (h : tyOk ics d = true) (hs : small d) (ht : isT d = false) : tyN ics n d := by
  cases n with
  | zero => exact ⟨h, hs⟩
  | succ n => exact ⟨⟨h, hs⟩, fun l e => by subst e; cases ht⟩
theorem tyN.int {ics : List Str} {n : Nat} {i : Int} : tyN ics n (.int i) := tyN.flat rfl trivial rfl
theorem tyN.str {ics : List Str} {n : Nat} {x : Str} (h : x.length ≤ 1000000) : tyN ics n (.str x) := tyN.flat rfl h rfl
end Vs
namespace Vs
open PySem L2
def padM : Nat → List M → List M
  | 0, _ => []
  | n + 1, ms => ms.headD .fz :: padM n ms.tail
theorem putFM_new {f : Str} {d : D} {m : M} : ∀ {fs : List (Str × D)} {ms : List M}, f ∉ fs.map Prod.fst → putFM f d m fs ms = (fs ++ [(f, d)], padM fs.length ms ++ [m])
  | [], ms, _ => rfl
  | (g, x) :: r, ms, h => by
    rw [List.map_cons, List.mem_cons, not_or] at h
    have ih := putFM_new (d := d) (m := m) (fs := r) (ms := ms.tail) h.2
    rw [putFM, if_neg (fun z => h.1 z.symm), ih]
    rfl
theorem stF_new {cs : List Str} {f c : Str} {v o : SE} {e e1 e2 e3 : Env} {ov : OR} {j : Nat} {d : D} {m : M} {fs : List (Str × D)} {ms : List M} (names : List Str) (h1 : v e = .ok ov e1) (h2 : o e1 = .ok (.slot j) e2) (h3 : own ov e2 = some (d, m, e3)) (h4 : e3[j]? = some (some (.val (.ins c fs) (.nd true ms))))
    (hn : fs.map Prod.fst = names) (hf : decide (f ∉ names ∧ c ∈ cs ∧ names.length < 1000) = true) {r : Fl} (hr : Fl.nx (e3.set j (some (.val (.ins c (fs ++ [(f, d)])) (.nd true (normM (padM fs.length ms ++ [m])))))) = r) :
    sStF cs f v o e = r := by
  subst hr
  obtain ⟨a1, a2, a3⟩ := of_decide_eq_true hf
  rw [← hn] at a1 a3
  rw [List.length_map] at a3
  unfold sStF sBind
  rw [show sCons v (sCons o sNil) e = .ok [ov, .slot j] e2 from by unfold sCons; rw [h1, Rs.bind_ok, h2]; rfl]
  dsimp only
  unfold fStF
  dsimp only
  rw [h3]
  dsimp only
  rw [h4]
  dsimp only
  rw [if_pos ⟨a2, a3⟩, putFM_new a1]
theorem fieldIx_at {f : Str} : ∀ {fs : List (Str × D)} {j : Nat} {d : D}, (fs.map Prod.fst).idxOf f = j → fs[j]? = some (f, d) → fieldIx f fs = some (j, d)
  | [], j, d, _, h => by simp at h
  | (g, x) :: r, j, d, h1, h2 => by
    rw [fieldIx]
    by_cases q : f = g
    · subst q
      rw [List.map_cons, List.idxOf_cons_self] at h1
      subst h1
      rw [if_pos rfl]
      simp at h2
      rw [h2]
    · rw [if_neg q]
      rw [List.map_cons, List.idxOf_cons, beq_eq_false_iff_ne.mpr (fun (z : g = f) => q z.symm)] at h1
      simp only [cond_false, Bool.false_eq_true, if_false] at h1
      subst h1
      rw [fieldIx_at (fs := r) (d := d) rfl (by simpa using h2)]
      rfl
end Vs
namespace Vs
open PySem L2
end Vs

namespace L2
open PySem PySem.Spec PyProof.Rows
def LeP (p q : Int × Int) : Prop := SrtO.lexB q p = false
theorem LeP.tr {p q r : Int × Int} (h : LeP p q) (k : LeP q r) : LeP p r := by
  unfold LeP at *
  rw [SrtO.lexB_no] at *
  omega
theorem LeP.lt {p q : Int × Int} (h : SrtO.lexB p q = true) : LeP p q := by
  unfold LeP
  rw [SrtO.lexB_no]
  rw [SrtO.lexB_iff] at h
  omega
section
variable {X : Cx}
end
end L2
namespace L2
open PySem PySem.Spec PyProof.Rows
section
variable {X : Cx} {K : PySem.W.Frag}
end
end L2
namespace Vs
open PySem L2
section
variable {K : PySem.W.Frag} {T : CxA} {ro : List Nat} {W W' : WX} {σ σ1 : St} {G H G1 H1 G2 H2 G' H' : Hp} {U U1 U2 U' u u' R : List Addr} {env : Env}
end
end Vs

namespace L2
open PySem PySem.Spec PyProof.Rows
section
variable {X : Cx} {K : PySem.W.Frag}
end
def LeS (a b : Str) : Prop := ltCps b.cps.toList a.cps.toList = false
theorem leS_iff {a b : Str} : LeS a b ↔ ¬ b.cps.toList < a.cps.toList := by
  unfold LeS
  rw [ltCps_eq, decide_eq_false_iff_not]
theorem LeS.tr {a b c : Str} (h : LeS a b) (k : LeS b c) : LeS a c := by
  rw [leS_iff, List.not_lt] at *
  exact List.le_trans h k
end L2
namespace Vs
open PySem L2
section
variable {K : PySem.W.Frag} {T : CxA} {ro : List Nat} {W W' : WX} {σ σ1 : St} {G H G1 H1 G2 H2 G' H' : Hp} {U U1 U2 U' u u' R : List Addr} {env : Env}
end
end Vs

namespace Vs
open PySem L2
section
variable {K : PySem.W.Frag} {T : CxA} {ro : List Nat} {W W' : WX} {σ σ1 : St} {G H G1 H1 G2 H2 G' H' : Hp} {U U1 U2 U' u u' R : List Addr} {env : Env}
theorem FzL.back : ∀ {vs : List V} {ds : List D} {j : Nat} {v : V}, FzL K H vs ds → vs[j]? = some v → ∃ d, ds[j]? = some d ∧ Fz K H v d
  | _, _, j, v, .nil, e => by simp at e
  | _, _, 0, v, .cons h t, e => by simp at e; subst e; exact ⟨_, rfl, h⟩
  | _, _, j + 1, v, .cons h t, e => by
    obtain ⟨d, h1, h2⟩ := FzL.back t (j := j) (by simpa using e)
    exact ⟨d, by simpa using h1, h2⟩
end
end Vs

namespace L2
open PySem PySem.Spec PyProof.Rows
def rOwn (C : Addr) (sp : Sp) : R2 := fun x y H Q => ∃ a b dx dy fs gs, x = .ref a ∧ y = .ref b ∧ H a = some (.ins C dx fs) ∧ H b = some (.ins C dy gs) ∧ sp [x, y] H Q (fun _ _ _ => False)
section
variable {X : Cx} {CX : CXT} {C f : Addr} {fd : FuncData} {ps : List Str} {sp : Sp} {k : Nat} {g : List Value → List Value → List Value} {gV : List V → List V → List V}
theorem op_eqOwn (m : Meth X.K C "__eq__" f) (F : FnG X.prog X.w X.K X.mg X.base CX k f fd ps sp) (hr : Room k X.A) (hgd : X.A.guards = some []) (hb : KBn X.K fd ps 2 [] g gV) (hgV : ∀ x y, gV [x, y] [] = [x, y])
    (hx : ∀ σ, PassesAt CX X σ (fun _ _ _ => False)) : OpR X (compareOp .Eq) (rOwn C sp) := by
  intro pins s σ H x y v u Q I rx ry h
  obtain ⟨a, b, dx, dy, fs, gs, rfl, rfl, ha, hb', hsp⟩ := h
  cases rx
  cases ry
  obtain ⟨mA, J, _⟩ := ins_get I.hok ha
  obtain ⟨mB, J', _⟩ := ins_get I.hok hb'
  obtain ⟨od, J, _⟩ := J.look
  obtain ⟨od', J', _⟩ := J'.look
  obtain ⟨mf, hF⟩ := I.fr
  show wpAny (model X.prog X.w) X.A (richCompare .Eq (.ref a) (.ref b)) (EP X pins σ Q) X.xe s
  refine PySem.W.cmp_K (op := .Eq) (tb := .ref C) hr.units0 hF I.ok.mod.kin J J'.type (by simp [PySem.W.notFirst]) m.at_ m.fn ?_
  refine wpAny_mono (run_callG (us := [.ref a, .ref b]) (vs := [.ref a, .ref b]) (ws := []) (zs := []) (E := fun _ _ _ _ => False) F hr hgd hb (hx σ) I (.cons rfl (.cons rfl .nil)) .nil rfl rfl (by rw [hgV]; exact hsp)) (fun r s' z => ?_) fun _ _ e => e
  obtain ⟨z, H', I', rz, q⟩ := z
  cases r with
  | notImplemented => cases z <;> first | exact (show False from rz).elim | (obtain ⟨_, e⟩ := rz; exact nomatch e) | exact nomatch rz
  | _ => exact ⟨z, H', I', rz, q⟩
end
end L2
namespace Vs
open PySem L2
section
variable {K : PySem.W.Frag} {T : CxA} {ro : List Nat} {W W' : WX} {σ σ1 : St} {G H G1 H1 G2 H2 G' H' : Hp} {U U1 U2 U' u u' R : List Addr} {env : Env}
def isIns (c : Str) (o : OR) (e : Env) : Bool := match rd o e with
  | some (.ins c' _) => decide (c' = c)
  | _ => false
theorem isIns_ok {v : V} {c : Str} {o : OR} (w : Wf G H (u ++ U)) (h : ROr K σ G H v o u) (r : Rl K T G H σ env U) (e : isIns c o env = true) : ∃ a dx fs, v = .ref a ∧ H a = some (.ins (He.ga K c) dx fs) := by
  unfold isIns at e
  split at e
  · rename_i c' fs er
    have hc := of_decide_eq_true e
    subst hc
    cases rd_ok w.gh h r er with
    | @ins a dx _ vs _ ha _ => exact ⟨a, dx, vs, rfl, ha⟩
  · cases e
def fOwn (c : Str) (io : List Bool) (F : Env → Rf) (os : List OR) (e : Env) : Rs OR := match os with
  | [o1, o2] => if isIns c o1 e && isIns c o2 e then (match fCall io F [o1, o2] e with
    | .ok o e1 => .ok o e1
    | _ => .no) else .no
  | _ => .no
theorem cbs_own {c : Str} {io : List Bool} {F : Env → Rf} (hn : io.length = 2) : CbS K T W (l2 (rOwn (He.ga K c) (spV K 2 F))) (fOwn c io F) := fun σ G H vs os u env U Q w a rl p => by
  unfold fOwn at p
  split at p
  · rename_i o1 o2
    obtain ⟨x, y, u1, u2, rfl, rfl, h1, h2⟩ := ras_two a
    split at p
    · rename_i hi
      rw [Bool.and_eq_true] at hi
      have w3 : Wf G H ((u1 ++ U) ++ u2) := w.perm (by rw [List.append_assoc, List.append_assoc]; exact List.Perm.append_left _ List.perm_append_comm)
      have w4 : Wf G H ((u2 ++ U) ++ u1) := w.perm (by rw [List.append_assoc]; exact List.perm_append_comm)
      obtain ⟨a1, dx, fs, rfl, ha⟩ := isIns_ok w3.left h1 rl hi.1
      obtain ⟨b1, dy, gs, rfl, hb⟩ := isIns_ok w4.left h2 rl hi.2
      refine ⟨a1, b1, dx, dy, fs, gs, rfl, rfl, ha, hb, ?_⟩
      have p2 : Post K T (rE K) WN σ G H ((u1 ++ u2) ++ U) (fCall io F [o1, o2] env) Q := by
        cases q : fCall io F [o1, o2] env with
        | ok o e1 => rw [q] at p; exact p
        | ex c' w' e1 => rw [q] at p; exact p.elim
        | no => rw [q] at p; exact p.elim
      have z := call_ok (W := WN) hn w a rl p2
      exact z
    · exact p.elim
  · exact p.elim
def sEqOwn (c : Str) (io : List Bool) (F : Env → Rf) (a b : SE) : SE := sOp2 (fOwn c io F) a b
theorem snd_eqOwn {c : Str} {io : List Bool} {F : Env → Rf} {ta tb : TE} {a b : SE} (hn : io.length = 2) (ha : Snd K T (rE K) W ta a) (hb : Snd K T (rE K) W tb b) : Snd K T (rE K) W (tOp (rOwn (He.ga K c) (spV K 2 F)) ta tb) (sEqOwn c io F a b) := snd_op2 (cbs_own hn) ha hb
end
end Vs

namespace L2
open PySem PySem.Spec PyProof.Rows
section
variable {X : Cx} {K : PySem.W.Frag}
end
end L2
namespace Vs
open PySem L2
section
variable {K : PySem.W.Frag} {T : CxA} {ro : List Nat} {W W' : WX} {σ σ1 : St} {G H G1 H1 G2 H2 G' H' : Hp} {U U1 U2 U' u u' R : List Addr} {env : Env}
end
end Vs

namespace Vs
open PySem L2
section
variable {α : Type} {N : Nat} {te : SE} {tt : ST} {e : Env}
end
def puts (e : Env) : List Nat → List (Option Slt) → Env
  | i :: js, x :: xs => puts (e.set i x) js xs
  | _, _ => e
theorem puts_nil (e : Env) (xs : List (Option Slt)) : puts e [] xs = e := by unfold puts; rfl
theorem puts_cons (e : Env) (i : Nat) (js : List Nat) (x : Option Slt) (xs : List (Option Slt)) : puts e (i :: js) (x :: xs) = puts (e.set i x) js xs := rfl
theorem q_forP {Q : Fl → Prop} {f : SG} {b : SS} (js : List Nat) (J : Nat → List (Option Slt) → Prop) (ds : List D) (e0 e : Env) (xs0 : List (Option Slt)) (he : e = puts e0 js xs0) (h0 : J 0 xs0)
    (step : ∀ i d xs, ds[i]? = some d → J i xs → ∃ e1, f d .fz (puts e0 js xs) = some e1 ∧ Bq (fun e2 => ∃ xs', e2 = puts e0 js xs' ∧ J (i + 1) xs') Q (b e1)) (fin : ∀ xs, J ds.length xs → Q (.nx (puts e0 js xs))) : Q (forL f b ds e) :=
  q_forL (fun i e => ∃ xs, e = puts e0 js xs ∧ J i xs) ds e ⟨xs0, he, h0⟩ (fun i d e hd ⟨xs, he, hJ⟩ => by subst he; exact step i d xs hd hJ) fun e ⟨xs, he, hJ⟩ => by subst he; exact fin xs hJ
end Vs

namespace Vs
open PySem L2
section
variable {K : PySem.W.Frag} {T : CxA} {ro : List Nat} {W : WX} {σ : St} {G H G1 H1 G2 H2 G' H' : Hp} {U U1 U2 U' u u' R : List Addr} {env : Env}
theorem RelF.write {f : Str} : ∀ {fs : List (Str × V)} {ds : List (Str × D)} {ms : List M} {u : List Addr} {j : Nat} {z : D}, RelF K G H fs ds ms u → fieldIx f ds = some (j, z) → ms.getD j .fz = .nd true [] → u.Nodup →
    ∃ v u1, fs.lookup f = some v ∧ RelD K G H v z (.nd true []) u1 ∧ (∀ b ∈ u1, b ∈ u) ∧ ∀ G' H' z', Le G G' → RelD K G' H' v z' (.nd true []) u1 → (∀ b ∈ u, b ∉ u1 → H' b = H b) → RelF K G' H' fs (ds.set j (f, z')) ms u
  | _, _, _, _, j, l, .fz h, e, hm, _ => by simp at hm
  | _, _, _, _, j, l, @RelF.cons _ _ _ g v d m u1 fs ds ms u2 h t, e, hm, nd => by
    unfold fieldIx at e
    obtain ⟨n1, n2, n3⟩ := List.nodup_append.mp nd
    by_cases q : f = g
    · subst q
      rw [if_pos rfl] at e
      cases e
      simp only [List.getD_cons_zero] at hm
      subst hm
      refine ⟨v, u1, by simp, h, fun b hb => List.mem_append_left _ hb, fun G' H' z' s k1 k2 => ?_⟩
      rw [List.set_cons_zero]
      exact .cons k1 (t.mono s fun b hb => k2 b (List.mem_append_right _ hb) fun z => n3 b z b hb rfl)
    · rw [if_neg q, Option.map_eq_some_iff] at e
      obtain ⟨⟨j', d'⟩, e, z'⟩ := e
      simp only [Prod.mk.injEq] at z'
      obtain ⟨rfl, rfl⟩ := z'
      simp only [List.getD_cons_succ] at hm
      obtain ⟨v', u3, h1, h2, h3, h4⟩ := RelF.write t e hm n2
      refine ⟨v', u3, by rw [List.lookup_cons, show (f == g) = false from beq_eq_false_iff_ne.mpr q]; exact h1, h2, fun b hb => List.mem_append_right _ (h3 b hb), fun G' H' z' s k1 k2 => ?_⟩
      rw [List.set_cons_succ]
      exact .cons (h.mono s fun b hb => k2 b (List.mem_append_left _ hb) fun z => n3 b hb b (h3 b z) rfl) (h4 G' H' z' s k1 fun b hb => k2 b (List.mem_append_right _ hb))
end
end Vs

namespace Vs
open PySem L2 PySem.PyData
end Vs

namespace L2
open PySem PySem.Spec PyProof.Rows
section
variable {pg : Program} {wl : World} {ar : Around} {Rs : Result → Shared → Prop} {s0 : Shared} {kx vx ta ia tb ib : Expr} {fa fb : List Expr} {sco : Scope} {po : Pos} {itv dv : Value} {D : Addr} {en : Env}
end
end L2

namespace L2
open PySem PySem.Spec PyProof.Rows
section
variable {X : Cx}
end
end L2

namespace L2
open PySem PySem.Spec PyProof.Rows
end L2
namespace Vs
open PySem L2
section
variable {K : PySem.W.Frag} {T : CxA} {ro : List Nat} {W W' : WX} {σ σ1 : St} {G H G1 H1 G2 H2 G' H' : Hp} {U U1 U2 U' u u' R : List Addr} {env : Env}
theorem LeF.refl (G : Hp) : LeF G G := ⟨Le.refl G, Fk.refl G⟩
def StDc (K : PySem.W.Frag) (T : CxA) (σ : St) (vs : List Nat) (D' : Addr) (Gb Hb : Hp) (Ub : List Addr) (acc : List (D × D)) (e : Env) (H' : Hp) : Prop := ∃ G' U' vacc, Mv Gb Hb Ub G' H' (D' :: U') ∧ H' D' = some (.dK vacc) ∧ FzK K G' vacc acc ∧ Rl K T G' H' (wipe σ vs) e U' ∧ ∀ i ∈ vs, e[i]? = some none
theorem StDc.to {σ : St} {vs : List Nat} {D' : Addr} {Gb Hb Gc Hc : Hp} {Ub Uc : List Addr} {acc : List (D × D)} {e : Env} {H' : Hp} (m : Mv Gc Hc Uc Gb Hb Ub) (h : StDc K T σ vs D' Gb Hb Ub acc e H') : StDc K T σ vs D' Gc Hc Uc acc e H' :=
  let ⟨G', U', vacc, m', a, b, c, d⟩ := h; ⟨G', U', vacc, m.trans m', a, b, c, d⟩
theorem StDc.wiped {σ : St} {vs : List Nat} {D' : Addr} {Gb Hb G4 H4 : Hp} {Ub U4 : List Addr} {acc : List (D × D)} {vacc : List (Key × V)} {e : Env} {σ3 : St} (m : Mv Gb Hb Ub G4 H4 (U4 ++ [D'])) (hd : H4 D' = some (.dK vacc)) (fa : FzK K G4 vacc acc) (r : Rl K T G4 H4 σ3 e U4) (hw : wipe σ3 vs = wipe σ vs) (hlt : ∀ i ∈ vs, i < e.length) :
    StDc K T σ vs D' Gb Hb Ub acc (wipeE e vs) H4 := by
  obtain ⟨ud, U6, r6, p6⟩ := r.wipeAll vs
  rw [hw] at r6
  have pm : (ud ++ (D' :: U6)).Perm (U4 ++ [D']) := List.perm_middle.trans ((p6.cons D').trans (List.perm_append_comm (l₁ := [D'])))
  exact ⟨G4, U6, vacc, m.trans ((Mv.forget (m.wf.perm pm.symm)).permL pm), hd, fa, r6, fun i hi => wipeE_in hi (hlt i hi)⟩
def StLc (K : PySem.W.Frag) (T : CxA) (σ : St) (vs : List Nat) (D' : Addr) (Gb Hb : Hp) (Ub : List Addr) (acc : List D) (e : Env) (H' : Hp) : Prop := ∃ G' U' vacc, Mv Gb Hb Ub G' H' (D' :: U') ∧ H' D' = some (.lst vacc) ∧ FzL K G' vacc acc ∧ Rl K T G' H' (wipe σ vs) e U' ∧ ∀ i ∈ vs, e[i]? = some none
theorem StLc.to {σ : St} {vs : List Nat} {D' : Addr} {Gb Hb Gc Hc : Hp} {Ub Uc : List Addr} {acc : List D} {e : Env} {H' : Hp} (m : Mv Gc Hc Uc Gb Hb Ub) (h : StLc K T σ vs D' Gb Hb Ub acc e H') : StLc K T σ vs D' Gc Hc Uc acc e H' :=
  let ⟨G', U', vacc, m', a, b, c, d⟩ := h; ⟨G', U', vacc, m.trans m', a, b, c, d⟩
theorem StLc.wiped {σ : St} {vs : List Nat} {D' : Addr} {Gb Hb G4 H4 : Hp} {Ub U4 : List Addr} {acc : List D} {vacc : List V} {e : Env} {σ3 : St} (m : Mv Gb Hb Ub G4 H4 (U4 ++ [D'])) (hd : H4 D' = some (.lst vacc)) (fa : FzL K G4 vacc acc) (r : Rl K T G4 H4 σ3 e U4) (hw : wipe σ3 vs = wipe σ vs) (hlt : ∀ i ∈ vs, i < e.length) :
    StLc K T σ vs D' Gb Hb Ub acc (wipeE e vs) H4 := by
  obtain ⟨ud, U6, r6, p6⟩ := r.wipeAll vs
  rw [hw] at r6
  have pm : (ud ++ (D' :: U6)).Perm (U4 ++ [D']) := List.perm_middle.trans ((p6.cons D').trans (List.perm_append_comm (l₁ := [D'])))
  exact ⟨G4, U6, vacc, m.trans ((Mv.forget (m.wf.perm pm.symm)).permL pm), hd, fa, r6, fun i hi => wipeE_in hi (hlt i hi)⟩
end
end Vs

namespace L2
open PySem PySem.Spec PyProof.Rows PySem.PyData
mutual
def eqP : PyData → PyData → Bool
  | .none, .none => true
  | .bool a, .bool b => a == b
  | .int i, .int j => decide (i = j)
  | .str x, .str y => decide (x = y)
  | .list xs, .list ys => eqPs xs ys
  | .tuple xs, .tuple ys => eqPs xs ys
  | .dict xs, .dict ys => eqPk xs ys
  | _, _ => false
def eqPs : List PyData → List PyData → Bool
  | [], [] => true
  | x :: xs, y :: ys => eqP x y && eqPs xs ys
  | _, _ => false
def eqPk : List (PyData × PyData) → List (PyData × PyData) → Bool
  | [], [] => true
  | (k, x) :: xs, (l, y) :: ys => eqP k l && (eqP x y && eqPk xs ys)
  | _, _ => false
end
mutual
theorem eqP_eq : ∀ {p q : PyData}, eqP p q = true → p = q := fun {p q} h => by
  cases p <;> cases q <;> simp only [eqP, Bool.false_eq_true, beq_iff_eq, decide_eq_true_eq] at h
  · rfl
  · rw [h]
  · rw [h]
  · rw [h]
  · rw [eqPs_eq h]
  · rw [eqPs_eq h]
  · rw [eqPk_eq _ _ h]
termination_by p => sizeOf p
theorem eqPs_eq : ∀ {p q : List PyData}, eqPs p q = true → p = q := fun {p q} h => by
  cases p <;> cases q <;> simp only [eqPs, Bool.false_eq_true, Bool.and_eq_true] at h
  · rfl
  · rw [eqP_eq h.1, eqPs_eq h.2]
termination_by p => sizeOf p
theorem eqPk_eq : ∀ (p q : List (PyData × PyData)), eqPk p q = true → p = q
  | [], [], _ => rfl
  | [], _ :: _, h => by simp [eqPk] at h
  | _ :: _, [], h => by simp [eqPk] at h
  | (k, x) :: p, (l, y) :: q, h => by
    simp only [eqPk, Bool.and_eq_true] at h
    rw [eqP_eq h.1, eqP_eq h.2.1, eqPk_eq p q h.2.2]
termination_by p => sizeOf p
end
mutual
theorem eqP_refl : ∀ p : PyData, eqP p p = true
  | .none => by simp [eqP]
  | .bool a => by simp [eqP]
  | .int i => by simp [eqP]
  | .str x => by simp [eqP]
  | .list xs => by rw [eqP]; exact eqPs_refl xs
  | .tuple xs => by rw [eqP]; exact eqPs_refl xs
  | .dict xs => by rw [eqP]; exact eqPk_refl xs
theorem eqPs_refl : ∀ p : List PyData, eqPs p p = true
  | [] => by simp [eqPs]
  | x :: xs => by rw [eqPs, eqP_refl x, eqPs_refl xs]; rfl
theorem eqPk_refl : ∀ p : List (PyData × PyData), eqPk p p = true
  | [] => by simp [eqPk]
  | (k, x) :: xs => by rw [eqPk, eqP_refl k, eqP_refl x, eqPk_refl xs]; rfl
end
mutual
def okQ : PyData → Bool
  | .list xs => okQs xs
  | .tuple xs => okQs xs
  | .dict xs => xs.isEmpty
  | _ => true
def okQs : List PyData → Bool
  | [] => true
  | x :: xs => okQ x && okQs xs
end
mutual
def hgt : PyData → Nat
  | .list xs => hgts xs + 1
  | .tuple xs => hgts xs + 1
  | _ => 0
def hgts : List PyData → Nat
  | [] => 0
  | x :: xs => max (hgt x) (hgts xs)
end
mutual
inductive Dz (K : PySem.W.Frag) (H : Hp) : V → PyData → Prop
  | non : Dz K H .non .none
  | bl (b : Bool) : Dz K H (.bl b) (.bool b)
  | int (i : Int) : Dz K H (.int i) (.int i)
  | str (x : Str) : Dz K H (.str x) (.str x)
  | lst {a : Addr} {xs : List V} {ds : List PyData} : SqL K H a xs → DzAll K H xs ds → Dz K H (.ref a) (.list ds)
  | tup {a : Addr} {xs : List V} {ds : List PyData} : SqT K H a xs → DzAll K H xs ds → Dz K H (.ref a) (.tuple ds)
  | dct {a : Addr} {kvs : List (Key × V)} {es : List (PyData × PyData)} : Rd H a (.dK kvs) → kvs.map (fun q => keyD q.1) = es.map (·.1) → DzAll K H (kvs.map (·.2)) (es.map (·.2)) → Dz K H (.ref a) (.dict es)
inductive DzAll (K : PySem.W.Frag) (H : Hp) : List V → List PyData → Prop
  | nil : DzAll K H [] []
  | cons {v : V} {vs : List V} {d : PyData} {ds : List PyData} : Dz K H v d → DzAll K H vs ds → DzAll K H (v :: vs) (d :: ds)
end
section
variable {K : PySem.W.Frag} {X : Cx} {pins : List (Addr × Obj)} {σ : St} {H : Hp} {s : Shared}
theorem eq_of_rc {A : Around} {v u : Value} (h : SeqAt.RcAt A s v u true) (hv : ∀ a b, v = .ref a → u = .ref b → True) (atom : (∀ a, v ≠ .ref a) → SeqAt.EqAt A s v u true) (ref : ∀ a, v = .ref a → ∃ b, u = .ref b) : SeqAt.EqAt A s v u true := by
  by_cases c : ∃ a, v = .ref a
  · obtain ⟨a, rfl⟩ := c
    obtain ⟨b, rfl⟩ := ref a rfl
    by_cases e : a = b
    · subst e; exact SeqAt.EqAt.same _
    · exact SeqAt.EqAt.of_refs e h
  · exact atom fun a e => c ⟨a, e⟩
mutual
theorem rc_same (I : Inv X pins σ H s) : ∀ (p : PyData) (A : Around) (x y : V) (v u : Value), okQ p = true → A.units + hgt p < cLine → Dz X.K H x p → Dz X.K H y p → RelV x v → RelV y u → SeqAt.RcAt A s v u true ∧ SeqAt.EqAt A s v u true
  | .none, A, x, y, v, u, _, _, h, k, r, q => by
    cases h; cases k; cases r; cases q
    exact ⟨SeqAt.RcAt.none_none, SeqAt.EqAt.same _⟩
  | .bool b, A, x, y, v, u, _, _, h, k, r, q => by
    cases h; cases k; cases r; cases q
    exact ⟨by have z := SeqAt.RcAt.bool_bool (A := A) (s := s) b b; rw [show (b == b) = true from beq_self_eq_true b] at z; exact z, SeqAt.EqAt.same _⟩
  | .int i, A, x, y, v, u, _, _, h, k, r, q => by
    cases h; cases k
    obtain ⟨t, rfl⟩ := r
    obtain ⟨t', rfl⟩ := q
    have z := SeqAt.RcAt.int_int (A := A) (s := s) i t i t'
    have z2 := SeqAt.EqAt.int_int (A := A) (s := s) i t i t'
    rw [show (i == i) = true from beq_self_eq_true i] at z z2
    exact ⟨z, z2⟩
  | .str w, A, x, y, v, u, _, _, h, k, r, q => by
    cases h; cases k
    obtain ⟨t, rfl⟩ := r
    obtain ⟨t', rfl⟩ := q
    have z := SeqAt.RcAt.str_str (A := A) (s := s) w t w t'
    have z2 := SeqAt.EqAt.str_str (A := A) (s := s) w t w t'
    rw [show (w == w) = true from beq_self_eq_true w] at z z2
    exact ⟨z, z2⟩
  | .list ds, A, x, y, v, u, ok, hu, h, k, r, q => by
    cases h with
    | lst hs ha => cases k with
      | lst ks ka =>
        cases r; cases q
        rw [okQ] at ok
        rw [hgt] at hu
        obtain ⟨its, rv, il, _⟩ := I.list hs
        obtain ⟨jts, rw_, jl, _⟩ := I.list ks
        have each := rc_sames I ds A.in1 _ _ its jts ok (by show A.units + 1 + hgts ds < _; omega) ha ka rv rw_
        have il' : s.heap.IsList _ its.toArray := let ⟨o, n, e, c, _, d⟩ := il; ⟨o, e, c, n, d⟩
        have jl' : s.heap.IsList _ jts.toArray := let ⟨o, n, e, c, _, d⟩ := jl; ⟨o, e, c, n, d⟩
        have rc := SeqAt.RcAt.lists (A := A) (e := fun _ => true) il' jl' (by simp [each.1]) (by omega) fun j h1 h2 => by
          have := each.2 j (by simpa using h1) (by simpa using h2)
          simpa using this
        rw [show (List.range its.toArray.size).all (fun _ => true) = true by simp] at rc
        exact ⟨rc, eq_of_rc rc (fun _ _ _ _ => trivial) (fun n => (n _ rfl).elim) fun _ _ => ⟨_, rfl⟩⟩
  | .tuple ds, A, x, y, v, u, ok, hu, h, k, r, q => by
    cases h with
    | tup hs ha => cases k with
      | tup ks ka =>
        cases r; cases q
        rw [okQ] at ok
        rw [hgt] at hu
        obtain ⟨its, rv, il, _⟩ := I.tuple hs
        obtain ⟨jts, rw_, jl, _⟩ := I.tuple ks
        have each := rc_sames I ds A.in1 _ _ its jts ok (by show A.units + 1 + hgts ds < _; omega) ha ka rv rw_
        have rc := SeqAt.RcAt.tuples (A := A) (e := fun _ => true) il jl (by omega) fun j h1 h2 => by
          have := each.2 j (by simpa using h1) (by simpa using h2)
          simpa using this
        rw [show ((List.range (min its.toArray.size jts.toArray.size)).all (fun _ => true) && its.toArray.size == jts.toArray.size) = true by simp [each.1]] at rc
        exact ⟨rc, eq_of_rc rc (fun _ _ _ _ => trivial) (fun n => (n _ rfl).elim) fun _ _ => ⟨_, rfl⟩⟩
  | .dict es, A, x, y, v, u, ok, hu, h, k, r, q => by
    cases h with
    | @dct a kvs es hs hk ha => cases k with
      | @dct b lvs es' ks kk ka =>
        cases r; cases q
        have e0 : es = [] := by simpa [okQ] using ok
        subst e0
        have k0 : kvs = [] := by simpa using hk
        have l0 : lvs = [] := by simpa using kk
        subst k0
        subst l0
        have hu : A.units < cLine := by omega
        obtain ⟨_, ya, va, ra, oa, ea, pa, ha1, ha2, ha3, ha4, ha5, ha6⟩ := (show ObjOk X.prog X.w H s.heap a (.dK []) from rd_of I.hok hs)
        obtain ⟨_, yb, vb, rb, ob, eb, pb, hb1, hb2, hb3, hb4, hb5, hb6⟩ := (show ObjOk X.prog X.w H s.heap b (.dK []) from rd_of I.hok ks)
        have va0 : va = [] := List.eq_nil_of_length_eq_zero (by rw [← ra.length]; rfl)
        have vb0 : vb = [] := List.eq_nil_of_length_eq_zero (by rw [← rb.length]; rfl)
        subst va0
        subst vb0
        have na : ea.toList = [] := List.eq_nil_of_length_eq_zero (by rw [ha5.length]; rfl)
        have nb : eb.toList = [] := List.eq_nil_of_length_eq_zero (by rw [hb5.length]; rfl)
        have rc : SeqAt.RcAt A s (.ref a) (.ref b) true := fun prog w E Q hq => PySem.W.keq_eq (knd := mixKind prog w) (ka := []) (kb := []) (r := true) ya yb ⟨oa, ea, pa, ha1, ha2, ha3, fun e he => by rw [← Array.mem_toList_iff, na] at he; simp at he, by rw [na]; exact .nil, List.nodup_nil⟩
          ⟨ob, eb, pb, hb1, hb2, hb3, fun e he => by rw [← Array.mem_toList_iff, nb] at he; simp at he, by rw [nb]; exact .nil, List.nodup_nil⟩ (by omega) (fun _ => .nil) (by simpa using hq)
        exact ⟨rc, eq_of_rc rc (fun _ _ _ _ => trivial) (fun n => (n _ rfl).elim) fun _ _ => ⟨_, rfl⟩⟩
theorem rc_sames (I : Inv X pins σ H s) : ∀ (ps : List PyData) (A : Around) (xs ys : List V) (vs us : List Value), okQs ps = true → A.units + hgts ps < cLine → DzAll X.K H xs ps → DzAll X.K H ys ps → Vals xs vs → Vals ys us → vs.length = us.length ∧ ∀ j (h1 : j < vs.length) (h2 : j < us.length), SeqAt.EqAt A s vs[j] us[j] true
  | [], A, xs, ys, vs, us, _, _, h, k, r, q => by
    cases h; cases k; cases r; cases q
    exact ⟨rfl, fun j h1 => absurd h1 (Nat.not_lt_zero _)⟩
  | p :: ps, A, xs, ys, vs, us, ok, hu, h, k, r, q => by
    cases h with
    | cons h1 h2 => cases k with
      | cons k1 k2 => cases r with
        | cons r1 r2 => cases q with
          | cons q1 q2 =>
            rw [okQs, Bool.and_eq_true] at ok
            rw [hgts] at hu
            have a := (rc_same I p A _ _ _ _ ok.1 (by omega) h1 k1 r1 q1).2
            have b := rc_sames I ps A _ _ _ _ ok.2 (by omega) h2 k2 r2 q2
            refine ⟨by simp [b.1], fun j j1 j2 => ?_⟩
            cases j with
            | zero => exact a
            | succ j => exact b.2 j (by simpa using j1) (by simpa using j2)
end
mutual
theorem Dz.reads (I : Inv X pins σ H s) (hs : ∃ o, X.K.lookup sysModules = some o ∧ o.cls = .type "dict") : ∀ (d : PyData) (v : V) (u : Value), Dz X.K H v d → RelV v u → ∃ as, Reads s.heap u d as ∧ sysModules ∉ as
  | .none, _, _, h, r => by
    cases h
    cases r
    exact ⟨_, Reads.none, by simp⟩
  | .bool b, _, _, h, r => by
    cases h
    cases r
    exact ⟨_, Reads.bool b, by simp⟩
  | .int i, _, _, h, r => by
    cases h
    obtain ⟨t, rfl⟩ := r
    exact ⟨_, Reads.int i t, by simp⟩
  | .str x, _, _, h, r => by
    cases h
    obtain ⟨t, rfl⟩ := r
    exact ⟨_, Reads.str x t, by simp⟩
  | .list ds, _, _, h, r => by
    cases h with
    | lst hq ha =>
      cases r
      obtain ⟨its, rv, ⟨o, n, ho, hc, _, hd⟩, _⟩ := I.list hq
      obtain ⟨as, hr, hn⟩ := Dz.readsAll I hs ds _ its ha rv
      refine ⟨_, Reads.list ho hc hd hr, fun z => ?_⟩
      rcases List.mem_cons.mp z with e | e
      · obtain ⟨o', e1, e2⟩ := hs
        have q := I.kIn _ _ e1
        rw [e, ho] at q
        cases q
        rw [hc] at e2
        exact absurd (Value.type.inj e2) (by decide)
      · exact hn e
  | .tuple ds, _, _, h, r => by
    cases h with
    | tup hq ha =>
      cases r
      obtain ⟨its, rv, ⟨o, ho, hc, n, hd⟩, _⟩ := I.tuple hq
      obtain ⟨as, hr, hn⟩ := Dz.readsAll I hs ds _ its ha rv
      exact ⟨_, Reads.tuple ho hc hd hr, hn⟩
  | .dict es, _, _, h, r => by
    cases h with
    | @dct a kvs _ hq hk ha =>
      cases r
      obtain ⟨_, hsm, vs, kv, o, ent, ep, ho, hex, hd, _, hp, _⟩ := dk_rd I.hok hq
      obtain ⟨q1, q2⟩ := pairs_reads (h := s.heap) hp kv
      obtain ⟨bs, hr, hn⟩ := Dz.readsAllK I hs es _ _ ha q2
      rw [hk] at q1
      refine ⟨_, Reads.dict ho hex.1 hd q1 hr, fun z => ?_⟩
      rcases List.mem_cons.mp (show sysModules ∈ a :: ([] ++ bs) from z) with e | e
      · rw [e] at hsm; simp at hsm
      · exact hn (by simpa using e)
theorem Dz.readsAll (I : Inv X pins σ H s) (hs : ∃ o, X.K.lookup sysModules = some o ∧ o.cls = .type "dict") : ∀ (ds : List PyData) (vs : List V) (us : List Value), DzAll X.K H vs ds → Vals vs us → ∃ as, ReadsAll s.heap us ds as ∧ sysModules ∉ as
  | [], _, _, h, r => by
    cases h
    cases r
    exact ⟨_, ReadsAll.nil, by simp⟩
  | d :: ds, _, _, h, r => by
    cases h with
    | cons h1 h2 =>
      cases r with
      | cons r1 r2 =>
        obtain ⟨as, q1, n1⟩ := Dz.reads I hs d _ _ h1 r1
        obtain ⟨bs, q2, n2⟩ := Dz.readsAll I hs ds _ _ h2 r2
        exact ⟨_, ReadsAll.cons q1 q2, fun z => (List.mem_append.mp z).elim n1 n2⟩
theorem Dz.readsAllK (I : Inv X pins σ H s) (hs : ∃ o, X.K.lookup sysModules = some o ∧ o.cls = .type "dict") : ∀ (es : List (PyData × PyData)) (vs : List V) (us : List Value), DzAll X.K H vs (es.map (·.2)) → Vals vs us → ∃ as, ReadsAll s.heap us (es.map (·.2)) as ∧ sysModules ∉ as
  | [], _, _, h, r => by
    cases h
    cases r
    exact ⟨_, ReadsAll.nil, by simp⟩
  | (k, d) :: es, _, _, h, r => by
    cases h with
    | cons h1 h2 =>
      cases r with
      | cons r1 r2 =>
        obtain ⟨as, q1, n1⟩ := Dz.reads I hs d _ _ h1 r1
        obtain ⟨bs, q2, n2⟩ := Dz.readsAllK I hs es _ _ h2 r2
        exact ⟨_, ReadsAll.cons q1 q2, fun z => (List.mem_append.mp z).elim n1 n2⟩
end
end
end L2

namespace Vs
open PySem L2
section
variable {K : PySem.W.Frag} {G H : Hp}
def keyY : D → Option PyData
  | .int i => some (.int i)
  | .str x => some (.str x)
  | _ => none
mutual
def toPyZ : D → Option PyData
  | .non => some .none
  | .bl b => some (.bool b)
  | .int i => some (.int i)
  | .str x => some (.str x)
  | .lst l => (toPyZs l).map .list
  | .tup l => (toPyZs l).map .tuple
  | .htp l => (toPyZs l).map .tuple
  | .dic l => (toPyZk l).map .dict
  | _ => none
def toPyZs : List D → Option (List PyData)
  | [] => some []
  | d :: l => match toPyZ d, toPyZs l with
    | some p, some q => some (p :: q)
    | _, _ => none
def toPyZk : List (D × D) → Option (List (PyData × PyData))
  | [] => some []
  | (k, d) :: l => match keyY k, toPyZ d, toPyZk l with
    | some c, some p, some q => some ((c, p) :: q)
    | _, _, _ => none
end
theorem keyY_kD (k : Key) : keyY (kD k) = some (keyD k) := by cases k <;> rfl
mutual
theorem fz_dz : ∀ {v : V} {d : D} {p : PyData}, Fz K H v d → toPyZ d = some p → Dz K H v p
  | _, _, _, .non, e => by simp only [toPyZ, Option.some.injEq] at e; subst e; exact .non
  | _, _, _, .bl b, e => by simp only [toPyZ, Option.some.injEq] at e; subst e; exact .bl b
  | _, _, _, .int i, e => by simp only [toPyZ, Option.some.injEq] at e; subst e; exact .int i
  | _, _, _, .str x, e => by simp only [toPyZ, Option.some.injEq] at e; subst e; exact .str x
  | _, _, _, .lst h a, e => by
    simp only [toPyZ, Option.map_eq_some_iff] at e
    obtain ⟨q, e, rfl⟩ := e
    exact .lst (SqL.of h) (fz_dzs a e)
  | _, _, _, .tup h a, e => by
    simp only [toPyZ, Option.map_eq_some_iff] at e
    obtain ⟨q, e, rfl⟩ := e
    exact .tup h.sq0 (fz_dzs a e)
  | _, _, _, .pr _ _ _, e => by simp [toPyZ] at e
  | _, _, _, .ty n, e => by simp [toPyZ] at e
  | _, _, _, .glo x, e => by simp [toPyZ] at e
  | _, _, _, .scr h a, e => by simp [toPyZ] at e
  | _, _, _, .dic h a, e => by
    simp only [toPyZ, Option.map_eq_some_iff] at e
    obtain ⟨q, e, rfl⟩ := e
    obtain ⟨e1, e2⟩ := fz_dzk a e
    exact .dct h e1 e2
  | _, _, _, .dit h a, e => by simp [toPyZ] at e
  | _, _, _, .ins h a, e => by simp [toPyZ] at e
  | _, _, _, .rng h, e => by simp [toPyZ] at e
  | _, _, _, .htp h a, e => by
    simp only [toPyZ, Option.map_eq_some_iff] at e
    obtain ⟨q, e, rfl⟩ := e
    exact .tup h.sq0 (fz_dzs a e)
theorem fz_dzs : ∀ {vs : List V} {ds : List D} {ps : List PyData}, FzL K H vs ds → toPyZs ds = some ps → DzAll K H vs ps
  | _, _, _, .nil, e => by simp only [toPyZs, Option.some.injEq] at e; subst e; exact .nil
  | _, _, _, .cons h t, e => by
    simp only [toPyZs] at e
    split at e
    · rename_i p q e1 e2
      cases e
      exact .cons (fz_dz h e1) (fz_dzs t e2)
    · cases e
theorem fz_dzk : ∀ {vs : List (Key × V)} {ds : List (D × D)} {ps : List (PyData × PyData)}, FzK K H vs ds → toPyZk ds = some ps → vs.map (fun q => keyD q.1) = ps.map (·.1) ∧ DzAll K H (vs.map (·.2)) (ps.map (·.2))
  | _, _, _, .nil, e => by simp only [toPyZk, Option.some.injEq] at e; subst e; exact ⟨rfl, .nil⟩
  | _, _, _, .cons (k := k) h t, e => by
    simp only [toPyZk, keyY_kD] at e
    split at e
    · rename_i c p q e0 e1 e2
      cases e0
      cases e
      obtain ⟨a, b⟩ := fz_dzk t e2
      exact ⟨by rw [List.map_cons, List.map_cons, a], .cons (fz_dz h e1) b⟩
    · cases e
end
end
end Vs

namespace L2
open PySem PySem.Spec PyProof.Rows
section
variable {X : Cx} {K : PySem.W.Frag}
end
end L2
namespace Vs
open PySem L2
section
variable {K : PySem.W.Frag} {T : CxA} {ro : List Nat} {W W' : WX} {σ σ1 : St} {G H G1 H1 G2 H2 G' H' : Hp} {U U1 U2 U' u u' R : List Addr} {env : Env}
end
end Vs

namespace L2
open PySem PySem.Spec PyProof.Rows PySem.PyData SeqAt
open AutoSeq1 (wpAny_loadPart')
open MeetsSeq MeetsSeq2 MeetsSeq3
section
variable {K : PySem.W.Frag} {X : Cx} {pins : List (Addr × Obj)} {σ : St} {H : Hp} {s : Shared}
end
end L2

namespace Vs
open PySem L2
section
variable {K : PySem.W.Frag} {G H : Hp}
end
end Vs

namespace Vs
open PySem L2
section
variable {K : PySem.W.Frag} {T : CxA} {ro : List Nat} {W : WX} {σ σ1 : St} {G H G1 H1 G2 H2 G' H' : Hp} {U U1 U2 U' u u' R : List Addr} {env : Env}
theorem RelL.len : ∀ {vs : List V} {ds : List D} {ms : List M} {u : List Addr}, RelL K G H vs ds ms u → vs.length = ds.length
  | _, _, _, _, .fz h => h.length
  | _, _, _, _, .cons _ t => congrArg (· + 1) t.len
end
end Vs

namespace L2
open PySem PySem.Spec PyProof.Rows PySem.PyData
def keyT (k : List Key) : PyData := .tuple (k.map keyD)
mutual
inductive DyW (K : PySem.W.Frag) (H : Hp) : V → PyData → Prop
  | non : DyW K H .non .none
  | bl (b : Bool) : DyW K H (.bl b) (.bool b)
  | int (i : Int) : DyW K H (.int i) (.int i)
  | str (x : Str) : DyW K H (.str x) (.str x)
  | lst {a : Addr} {xs : List V} {ds : List PyData} : SqL K H a xs → DyWAll K H xs ds → DyW K H (.ref a) (.list ds)
  | tup {a : Addr} {xs : List V} {ds : List PyData} : SqT K H a xs → DyWAll K H xs ds → DyW K H (.ref a) (.tuple ds)
  | dct {a : Addr} {kvs : List (Key × V)} {es : List (PyData × PyData)} : Rd H a (.dK kvs) → kvs.map (fun q => keyD q.1) = es.map (·.1) → DyWAll K H (kvs.map (·.2)) (es.map (·.2)) → DyW K H (.ref a) (.dict es)
  | dctT {a : Addr} {kvs : List (List Key × V)} {es : List (PyData × PyData)} : Rd H a (.dT kvs) → kvs.map (fun q => keyT q.1) = es.map (·.1) → DyWAll K H (kvs.map (·.2)) (es.map (·.2)) → DyW K H (.ref a) (.dict es)
inductive DyWAll (K : PySem.W.Frag) (H : Hp) : List V → List PyData → Prop
  | nil : DyWAll K H [] []
  | cons {v : V} {vs : List V} {d : PyData} {ds : List PyData} : DyW K H v d → DyWAll K H vs ds → DyWAll K H (v :: vs) (d :: ds)
end
section
variable {K : PySem.W.Frag} {X : Cx} {pins : List (Addr × Obj)} {σ : St} {H : Hp} {s : Shared}
theorem keys_reads {h : Heap} : ∀ {k : List Key} {us : List Value}, Vals (k.map kV) us → ReadsAll h us (k.map keyD) []
  | [], _, r => by cases r; exact .nil
  | .inl i :: k, _, r => by
    cases r with
    | cons r1 r2 =>
      obtain ⟨t, rfl⟩ := r1
      exact ReadsAll.cons (as := []) (Reads.int i t) (keys_reads r2)
  | .inr x :: k, _, r => by
    cases r with
    | cons r1 r2 =>
      obtain ⟨t, rfl⟩ := r1
      exact ReadsAll.cons (as := []) (Reads.str x t) (keys_reads r2)
theorem pairsT_reads (I : Inv X pins σ H s) : ∀ {kvs : List (List Key × V)} {xs : List (List Key × Addr × Value)}, KT H kvs xs →
    (∃ as, ReadsAll s.heap (xs.map fun x => Value.ref x.2.1) (kvs.map fun q => keyT q.1) as ∧ sysModules ∉ as) ∧ Vals (kvs.map (·.2)) (xs.map fun x => x.2.2) ∧ True
  | _, _, .nil => ⟨⟨[], .nil, by simp⟩, .nil, trivial⟩
  | _, _, .cons (a := p) (b := q) h t => by
    obtain ⟨h1, h2, h3⟩ := h
    obtain ⟨⟨as, q1, n1⟩, q2, _⟩ := pairsT_reads I t
    obtain ⟨its, rv, ⟨o, ho, hc, n, hd⟩, _⟩ := I.tuple (SqT.of h2)
    refine ⟨⟨[] ++ as, ReadsAll.cons (Reads.tuple ho hc hd (keys_reads (k := p.1) rv)) q1, by simpa using n1⟩, .cons h3 q2, trivial⟩
mutual
theorem DyW.reads (I : Inv X pins σ H s) (hs : ∃ o, X.K.lookup sysModules = some o ∧ o.cls = .type "dict") : ∀ (d : PyData) (v : V) (u : Value), DyW X.K H v d → RelV v u → ∃ as, Reads s.heap u d as ∧ sysModules ∉ as
  | .none, _, _, h, r => by
    cases h
    cases r
    exact ⟨_, Reads.none, by simp⟩
  | .bool b, _, _, h, r => by
    cases h
    cases r
    exact ⟨_, Reads.bool b, by simp⟩
  | .int i, _, _, h, r => by
    cases h
    obtain ⟨t, rfl⟩ := r
    exact ⟨_, Reads.int i t, by simp⟩
  | .str x, _, _, h, r => by
    cases h
    obtain ⟨t, rfl⟩ := r
    exact ⟨_, Reads.str x t, by simp⟩
  | .list ds, _, _, h, r => by
    cases h with
    | lst hq ha =>
      cases r
      obtain ⟨its, rv, ⟨o, n, ho, hc, _, hd⟩, _⟩ := I.list hq
      obtain ⟨as, hr, hn⟩ := DyW.readsAll I hs ds _ its ha rv
      refine ⟨_, Reads.list ho hc hd hr, fun z => ?_⟩
      rcases List.mem_cons.mp z with e | e
      · obtain ⟨o', e1, e2⟩ := hs
        have q := I.kIn _ _ e1
        rw [e, ho] at q
        cases q
        rw [hc] at e2
        exact absurd (Value.type.inj e2) (by decide)
      · exact hn e
  | .tuple ds, _, _, h, r => by
    cases h with
    | tup hq ha =>
      cases r
      obtain ⟨its, rv, ⟨o, ho, hc, n, hd⟩, _⟩ := I.tuple hq
      obtain ⟨as, hr, hn⟩ := DyW.readsAll I hs ds _ its ha rv
      exact ⟨_, Reads.tuple ho hc hd hr, hn⟩
  | .dict es, _, _, h, r => by
    cases h with
    | @dct a kvs _ hq hk ha =>
      cases r
      obtain ⟨_, hsm, vs, kv, o, ent, ep, ho, hex, hd, _, hp, _⟩ := dk_rd I.hok hq
      obtain ⟨q1, q2⟩ := pairs_reads (h := s.heap) hp kv
      obtain ⟨bs, hr, hn⟩ := DyW.readsAllK I hs es _ _ ha q2
      rw [hk] at q1
      refine ⟨_, Reads.dict ho hex.1 hd q1 hr, fun z => ?_⟩
      rcases List.mem_cons.mp (show sysModules ∈ a :: ([] ++ bs) from z) with e | e
      · rw [e] at hsm; simp at hsm
      · exact hn (by simpa using e)
    | @dctT a kvs _ hq hk ha =>
      cases r
      obtain ⟨_, hsm, xs, kt, o, ent, ep, ho, hex, hd, hp, _, _⟩ := dt_rd I.hok hq
      obtain ⟨q1, q2, n1⟩ := pairsT_reads I kt
      obtain ⟨bs, hr, hn⟩ := DyW.readsAllK I hs es _ _ ha q2
      rw [hk] at q1
      obtain ⟨as, q1⟩ := q1
      refine ⟨_, Reads.dict ho hex.1 hd (by rw [hp, List.map_map]; exact q1.1) (by rw [hp, List.map_map]; exact hr), fun z => ?_⟩
      rcases List.mem_cons.mp (show sysModules ∈ a :: (as ++ bs) from z) with e | e
      · rw [e] at hsm; simp at hsm
      · exact (List.mem_append.mp e).elim q1.2 hn
theorem DyW.readsAll (I : Inv X pins σ H s) (hs : ∃ o, X.K.lookup sysModules = some o ∧ o.cls = .type "dict") : ∀ (ds : List PyData) (vs : List V) (us : List Value), DyWAll X.K H vs ds → Vals vs us → ∃ as, ReadsAll s.heap us ds as ∧ sysModules ∉ as
  | [], _, _, h, r => by
    cases h
    cases r
    exact ⟨_, ReadsAll.nil, by simp⟩
  | d :: ds, _, _, h, r => by
    cases h with
    | cons h1 h2 =>
      cases r with
      | cons r1 r2 =>
        obtain ⟨as, q1, n1⟩ := DyW.reads I hs d _ _ h1 r1
        obtain ⟨bs, q2, n2⟩ := DyW.readsAll I hs ds _ _ h2 r2
        exact ⟨_, ReadsAll.cons q1 q2, fun z => (List.mem_append.mp z).elim n1 n2⟩
theorem DyW.readsAllK (I : Inv X pins σ H s) (hs : ∃ o, X.K.lookup sysModules = some o ∧ o.cls = .type "dict") : ∀ (es : List (PyData × PyData)) (vs : List V) (us : List Value), DyWAll X.K H vs (es.map (·.2)) → Vals vs us → ∃ as, ReadsAll s.heap us (es.map (·.2)) as ∧ sysModules ∉ as
  | [], _, _, h, r => by
    cases h
    cases r
    exact ⟨_, ReadsAll.nil, by simp⟩
  | (k, d) :: es, _, _, h, r => by
    cases h with
    | cons h1 h2 =>
      cases r with
      | cons r1 r2 =>
        obtain ⟨as, q1, n1⟩ := DyW.reads I hs d _ _ h1 r1
        obtain ⟨bs, q2, n2⟩ := DyW.readsAllK I hs es _ _ h2 r2
        exact ⟨_, ReadsAll.cons q1 q2, fun z => (List.mem_append.mp z).elim n1 n2⟩
end
end
end L2

namespace Vs
open PySem L2
section
variable {K : PySem.W.Frag} {G H : Hp}
def keyYL : List D → Option (List PyData)
  | [] => some []
  | k :: l => match keyY k, keyYL l with
    | some c, some q => some (c :: q)
    | _, _ => none
def keyYT : D → Option PyData
  | .tup l => (keyYL l).map .tuple
  | _ => none
mutual
def toPyW : D → Option PyData
  | .non => some .none
  | .bl b => some (.bool b)
  | .int i => some (.int i)
  | .str x => some (.str x)
  | .lst l => (toPyWs l).map .list
  | .tup l => (toPyWs l).map .tuple
  | .htp l => (toPyWs l).map .tuple
  | .dic l => (toPyWk l).map .dict
  | .dit l => (toPyWt l).map .dict
  | _ => none
def toPyWs : List D → Option (List PyData)
  | [] => some []
  | d :: l => match toPyW d, toPyWs l with
    | some p, some q => some (p :: q)
    | _, _ => none
def toPyWk : List (D × D) → Option (List (PyData × PyData))
  | [] => some []
  | (k, d) :: l => match keyY k, toPyW d, toPyWk l with
    | some c, some p, some q => some ((c, p) :: q)
    | _, _, _ => none
def toPyWt : List (D × D) → Option (List (PyData × PyData))
  | [] => some []
  | (k, d) :: l => match keyYT k, toPyW d, toPyWt l with
    | some c, some p, some q => some ((c, p) :: q)
    | _, _, _ => none
end
theorem keyYL_kD : ∀ k : List Key, keyYL (k.map kD) = some (k.map keyD)
  | [] => rfl
  | x :: k => by simp [keyYL, keyY_kD, keyYL_kD k]
theorem keyYT_kT (k : List Key) : keyYT (kT k) = some (keyT k) := by simp [keyYT, kT, keyYL_kD, keyT]
mutual
theorem fz_dw : ∀ {v : V} {d : D} {p : PyData}, Fz K H v d → toPyW d = some p → DyW K H v p
  | _, _, _, .non, e => by simp only [toPyW, Option.some.injEq] at e; subst e; exact .non
  | _, _, _, .bl b, e => by simp only [toPyW, Option.some.injEq] at e; subst e; exact .bl b
  | _, _, _, .int i, e => by simp only [toPyW, Option.some.injEq] at e; subst e; exact .int i
  | _, _, _, .str x, e => by simp only [toPyW, Option.some.injEq] at e; subst e; exact .str x
  | _, _, _, .lst h a, e => by
    simp only [toPyW, Option.map_eq_some_iff] at e
    obtain ⟨q, e, rfl⟩ := e
    exact .lst (SqL.of h) (fz_dws a e)
  | _, _, _, .tup h a, e => by
    simp only [toPyW, Option.map_eq_some_iff] at e
    obtain ⟨q, e, rfl⟩ := e
    exact .tup h.sq0 (fz_dws a e)
  | _, _, _, .pr _ _ _, e => by simp [toPyW] at e
  | _, _, _, .ty n, e => by simp [toPyW] at e
  | _, _, _, .glo x, e => by simp [toPyW] at e
  | _, _, _, .scr h a, e => by simp [toPyW] at e
  | _, _, _, .dic h a, e => by
    simp only [toPyW, Option.map_eq_some_iff] at e
    obtain ⟨q, e, rfl⟩ := e
    obtain ⟨e1, e2⟩ := fz_dwk a e
    exact .dct h e1 e2
  | _, _, _, .dit h a, e => by
    simp only [toPyW, Option.map_eq_some_iff] at e
    obtain ⟨q, e, rfl⟩ := e
    obtain ⟨e1, e2⟩ := fz_dwt a e
    exact .dctT h e1 e2
  | _, _, _, .ins h a, e => by simp [toPyW] at e
  | _, _, _, .rng h, e => by simp [toPyW] at e
  | _, _, _, .htp h a, e => by
    simp only [toPyW, Option.map_eq_some_iff] at e
    obtain ⟨q, e, rfl⟩ := e
    exact .tup h.sq0 (fz_dws a e)
theorem fz_dws : ∀ {vs : List V} {ds : List D} {ps : List PyData}, FzL K H vs ds → toPyWs ds = some ps → DyWAll K H vs ps
  | _, _, _, .nil, e => by simp only [toPyWs, Option.some.injEq] at e; subst e; exact .nil
  | _, _, _, .cons h t, e => by
    simp only [toPyWs] at e
    split at e
    · rename_i p q e1 e2
      cases e
      exact .cons (fz_dw h e1) (fz_dws t e2)
    · cases e
theorem fz_dwk : ∀ {vs : List (Key × V)} {ds : List (D × D)} {ps : List (PyData × PyData)}, FzK K H vs ds → toPyWk ds = some ps → vs.map (fun q => keyD q.1) = ps.map (·.1) ∧ DyWAll K H (vs.map (·.2)) (ps.map (·.2))
  | _, _, _, .nil, e => by simp only [toPyWk, Option.some.injEq] at e; subst e; exact ⟨rfl, .nil⟩
  | _, _, _, .cons (k := k) h t, e => by
    simp only [toPyWk, keyY_kD] at e
    split at e
    · rename_i c p q e0 e1 e2
      cases e0
      cases e
      obtain ⟨a, b⟩ := fz_dwk t e2
      exact ⟨by rw [List.map_cons, List.map_cons, a], .cons (fz_dw h e1) b⟩
    · cases e
theorem fz_dwt : ∀ {vs : List (List Key × V)} {ds : List (D × D)} {ps : List (PyData × PyData)}, FzT K H vs ds → toPyWt ds = some ps → vs.map (fun q => keyT q.1) = ps.map (·.1) ∧ DyWAll K H (vs.map (·.2)) (ps.map (·.2))
  | _, _, _, .nil, e => by simp only [toPyWt, Option.some.injEq] at e; subst e; exact ⟨rfl, .nil⟩
  | _, _, _, .cons (k := k) h t, e => by
    simp only [toPyWt, keyYT_kT] at e
    split at e
    · rename_i c p q e0 e1 e2
      cases e0
      cases e
      obtain ⟨a, b⟩ := fz_dwt t e2
      exact ⟨by rw [List.map_cons, List.map_cons, a], .cons (fz_dw h e1) b⟩
    · cases e
end
end
end Vs

namespace L2
open PySem PySem.Spec PyProof.Rows
section
variable {X : Cx} {K : PySem.W.Frag}
end
end L2

namespace Vs
open PySem L2
section
variable {K : PySem.W.Frag} {G H : Hp}
end
end Vs

namespace L2
open PySem PySem.Spec PyProof.Rows
section
variable {X : Cx} {K : PySem.W.Frag}
end
end L2

namespace Vs
open PySem L2
section
variable {K : PySem.W.Frag} {T : CxA} {ro : List Nat} {W W' : WX} {σ σ1 : St} {G H G1 H1 G2 H2 G' H' : Hp} {U U1 U2 U' u u' R : List Addr} {env : Env}
end
end Vs

namespace L2
open PySem PySem.Spec PyProof.Rows
section
variable {X : Cx} {K : PySem.W.Frag}
end
end L2

namespace Vs
open PySem L2
section
variable {K : PySem.W.Frag} {T : CxA} {ro : List Nat} {W W' : WX} {σ σ1 : St} {G H G1 H1 G2 H2 G' H' : Hp} {U U1 U2 U' u u' R : List Addr} {env : Env}
end
end Vs

namespace L2
open PySem PySem.Spec PyProof.Rows
section
variable {X : Cx}
end
end L2

namespace L2
open PySem PySem.Spec PyProof.Rows
end L2
namespace Vs
open PySem L2
section
variable {K : PySem.W.Frag} {T : CxA} {ro : List Nat} {W W' : WX} {σ σ1 : St} {G H G1 H1 G2 H2 G' H' : Hp} {U U1 U2 U' u u' R : List Addr} {env : Env}
end
end Vs

namespace L2
open PySem PySem.Spec PyProof.Rows
section
variable {X : Cx}
end
end L2

namespace Vs
open PySem L2
section
variable {K : PySem.W.Frag} {T : CxA} {ro : List Nat} {W W' : WX} {σ σ1 : St} {G H G1 H1 G2 H2 G' H' : Hp} {U U1 U2 U' u u' R : List Addr} {env : Env}
end
end Vs

namespace Vs
open PySem L2
def isIn : D → Bool
  | .int _ => true
  | _ => false
def isLT : D → Bool
  | .lst l => l.all fun r => match r with
    | .tup l3 => l3.all isIn
    | _ => false
  | _ => false
def okFz : D → Bool
  | .non => true
  | .bl _ => true
  | .int _ => true
  | .lst l => l.all isIn
  | .dic l => !l.isEmpty && l.all fun q => isLT q.2
  | _ => false
def okMk : D → M → Bool
  | d, .fz => okFz d
  | .lst l, .nd true [] => l.all isIn
  | .dic l, .nd true [] => l.all fun q => isIn q.2
  | _, _ => false
def okEn : Env → Bool
  | [] => true
  | none :: e => okEn e
  | some (.val d m) :: e => okMk d m && okEn e
  | _ => false
section
variable {K : PySem.W.Frag} {T : CxA} {ro : List Nat} {W W' : WX} {σ σ1 : St} {G H G1 H1 G2 H2 G3 H3 G' H' : Hp} {U U1 U2 U' u u' R : List Addr} {env : Env}
theorem fzl_isIn : ∀ {vs : List V} {ds : List D}, FzL K G vs ds → ds.all isIn = true → FzL K G' vs ds
  | _, _, .nil, _ => .nil
  | _, _, @FzL.cons _ _ v d vs ds h t, e => by
    rw [List.all_cons, Bool.and_eq_true] at e
    obtain ⟨e1, e2⟩ := e
    refine .cons ?_ (fzl_isIn t e2)
    cases h <;> first | exact .int _ | cases e1
theorem fzk_isIn : ∀ {vs : List (Key × V)} {ds : List (D × D)}, FzK K G vs ds → (ds.all fun q => isIn q.2) = true → FzK K G' vs ds ∧ ∀ kv ∈ vs, ∃ i, kv.2 = .int i
  | _, _, .nil, _ => ⟨.nil, fun _ h => nomatch h⟩
  | _, _, @FzK.cons _ _ k v d vs ds h t, e => by
    rw [List.all_cons, Bool.and_eq_true] at e
    obtain ⟨e1, e2⟩ := e
    obtain ⟨k1, k2⟩ := fzk_isIn t e2
    cases h <;> first
      | exact ⟨.cons (.int _) k1, fun kv hk => (List.mem_cons.mp hk).elim (fun q => ⟨_, congrArg Prod.snd q⟩) (k2 kv)⟩
      | cases e1
structure Less (a : Addr) (G G3 : Hp) : Prop where
  ne : ∀ b, b ≠ a → G3 b = G b
  at_ : ∃ od kvs, G a = some (.frz od (.dK kvs)) ∧ ∀ kv ∈ kvs, ∃ i, kv.2 = V.int i
theorem Less.tup {a b : Addr} {vs : List V} {ds : List D} (l : Less a G G3) (h : TupAt G b vs ds) : TupAt G3 b vs ds := by
  obtain ⟨od, kvs, ha, _⟩ := l.at_
  have nb : b ≠ a := fun z => by
    subst z
    rcases h.rd with h | ⟨o, h⟩ <;> · rw [ha] at h; cases h
  unfold TupAt at h ⊢
  rw [l.ne b nb]
  exact h
theorem Less.lt {a : Addr} (l : Less a G G3) : ∀ {vs : List V} {ds : List D}, FzL K G vs ds → (ds.all fun r => match r with | .tup l3 => l3.all isIn | _ => false) = true → FzL K G3 vs ds
  | _, _, .nil, _ => .nil
  | _, _, @FzL.cons _ _ v d vs ds h t, e => by
    rw [List.all_cons, Bool.and_eq_true] at e
    obtain ⟨e1, e2⟩ := e
    refine .cons ?_ (Less.lt l t e2)
    cases h <;> first | exact .tup (l.tup (by assumption)) (fzl_isIn (by assumption) e1) | cases e1
theorem Less.isLT {a : Addr} (l : Less a G G3) {v : V} {d : D} (h : Fz K G v d) (e : isLT d = true) : Fz K G3 v d := by
  obtain ⟨od, kvs, ha, _⟩ := l.at_
  cases h <;> try (cases e; done)
  rename_i b vs ds hb f
  have nb : b ≠ a := fun z => by subst z; rw [ha] at hb; cases hb
  exact .lst (by rw [l.ne b nb]; exact hb) (l.lt f e)
theorem Less.lts {a : Addr} (l : Less a G G3) : ∀ {vs : List (Key × V)} {ds : List (D × D)}, FzK K G vs ds → (ds.all fun q => Vs.isLT q.2) = true → FzK K G3 vs ds
  | _, _, .nil, _ => .nil
  | _, _, .cons h t, e => by
    rw [List.all_cons, Bool.and_eq_true] at e
    exact .cons (l.isLT h e.1) (Less.lts l t e.2)
theorem Less.fz {a : Addr} (l : Less a G G3) {v : V} {d : D} (h : Fz K G v d) (e : okFz d = true) : Fz K G3 v d := by
  obtain ⟨od, kvs, ha, hk⟩ := l.at_
  cases h with
  | non => exact .non
  | bl b => exact .bl b
  | int i => exact .int i
  | @lst b vs ds hb f =>
    have nb : b ≠ a := fun z => by subst z; rw [ha] at hb; cases hb
    exact .lst (by rw [l.ne b nb]; exact hb) (fzl_isIn f e)
  | @dic b ks ds hb f =>
    have e : (!ds.isEmpty && ds.all fun q => Vs.isLT q.2) = true := e
    rw [Bool.and_eq_true] at e
    have nb : b ≠ a := fun z => by
      subst z
      have e0 : ks = kvs := by
        rcases hb with hb | ⟨o, hb⟩
        · rw [ha] at hb; cases hb
        · rw [ha] at hb; cases hb; rfl
      subst e0
      cases f with
      | nil => exact absurd e.1 (by decide)
      | @cons k v d vs ds h t =>
        obtain ⟨i, hi⟩ := hk (k, v) List.mem_cons_self
        have hi : v = .int i := hi
        subst hi
        have e2 := e.2
        rw [List.all_cons, Bool.and_eq_true] at e2
        cases h
        cases e2.1
    exact .dic (by unfold Rd at hb ⊢; rw [l.ne b nb]; exact hb) (l.lts f e.2)
  | _ => cases e
theorem Less.rel {a : Addr} (l : Less a G G3) {v : V} {d : D} {m : M} (k : ∀ b ∈ u, H3 b = H b) (h : RelD K G H v d m u) (e : okMk d m = true) : RelD K G3 H3 v d m u := by
  cases h with
  | fz h => exact .fz (l.fz h (by unfold okMk at e; exact e))
  | @lst b vs ds ms u' hb r =>
    cases ms with
    | cons m ms => cases e
    | nil =>
      cases r with
      | fz f => exact .lst ((k b List.mem_cons_self).trans hb) (.fz (fzl_isIn f e))
  | @dic b vs ds ms u' hb r =>
    cases ms with
    | cons m ms => cases e
    | nil =>
      cases r with
      | fz f => exact .dic ((k b List.mem_cons_self).trans hb) (.fz (fzk_isIn f e).1)
  | _ => simp [okMk] at e
theorem Less.rlL {a : Addr} (l : Less a G G3) : ∀ {σ : St} {env : Env} {U : List Addr}, (∀ b ∈ U, H3 b = H b) → RlL K T G H σ env U → okEn env = true → RlL K T G3 H3 σ env U
  | _, _, _, _, .nil, _ => .nil
  | _, _, _, k, .emp r, e => .emp (Less.rlL l k r e)
  | _, _, _, k, .val h r, e => by
    rw [okEn, Bool.and_eq_true] at e
    exact .val (l.rel (fun b hb => k b (List.mem_append_left _ hb)) h e.1) (Less.rlL l (fun b hb => k b (List.mem_append_right _ hb)) r e.2)
  | _, _, _, _, .cau _ _ _ _, e => by cases e
theorem Less.rl {a : Addr} (l : Less a G G3) (k : ∀ b ∈ U, H3 b = H b) (r : Rl K T G H σ env U) (e : okEn env = true) : Rl K T G3 H3 σ env U :=
  let ⟨U0, h, p⟩ := r
  ⟨U0, l.rlL (fun b hb => k b (p.mem_iff.mp hb)) h e, p⟩
end
end Vs

namespace L2
open PySem PySem.Spec PyProof.Rows
def rOwnI (C : Addr) (sp : Sp) : R2 := fun x y H Q => ∃ a dx fs i, x = .ref a ∧ y = .int i ∧ H a = some (.ins C dx fs) ∧ sp [x, y] H Q (fun _ _ _ => False)
section
variable {X : Cx} {CX : CXT} {C f f2 : Addr} {fd : FuncData} {ps : List Str} {sp : Sp} {k : Nat} {g : List Value → List Value → List Value} {gV : List V → List V → List V}
theorem ps_dead {X : Cx} {st : Stmt} : PS X st (fun _ _ _ => False) := ⟨fun _ _ _ _ _ _ h => h.elim⟩
end
end L2
namespace Vs
open PySem L2
section
variable {K : PySem.W.Frag} {T : CxA} {ro : List Nat} {W W' : WX} {σ σ1 : St} {G H G1 H1 G2 H2 G' H' : Hp} {U U1 U2 U' u u' R : List Addr} {env : Env}
def sDead : SS := fun _ => .no
theorem snds_dead : SndS K T ro W (fun _ _ _ => False) sDead := fun _ _ _ _ _ _ _ _ p => p
def isInt1 (o : OR) (e : Env) : Bool := match rd o e with
  | some (.int _) => true
  | _ => false
theorem isInt1_ok {v : V} {o : OR} (w : Wf G H (u ++ U)) (h : ROr K σ G H v o u) (r : Rl K T G H σ env U) (e : isInt1 o env = true) : ∃ i, v = .int i := by
  unfold isInt1 at e
  split at e
  · rename_i i er
    cases rd_ok w.gh h r er with
    | int i => exact ⟨_, rfl⟩
  · cases e
def fOwnI (c : Str) (io : List Bool) (F : Env → Rf) (os : List OR) (e : Env) : Rs OR := match os with
  | [o1, o2] => if isIns c o1 e && isInt1 o2 e then (match fCall io F [o1, o2] e with
    | .ok o e1 => .ok o e1
    | _ => .no) else .no
  | _ => .no
theorem cbs_ownI {c : Str} {io : List Bool} {F : Env → Rf} (hn : io.length = 2) : CbS K T W (l2 (rOwnI (He.ga K c) (spV K 2 F))) (fOwnI c io F) := fun σ G H vs os u env U Q w a rl p => by
  unfold fOwnI at p
  split at p
  · rename_i o1 o2
    obtain ⟨x, y, u1, u2, rfl, rfl, h1, h2⟩ := ras_two a
    split at p
    · rename_i hi
      rw [Bool.and_eq_true] at hi
      have w3 : Wf G H ((u1 ++ U) ++ u2) := w.perm (by rw [List.append_assoc, List.append_assoc]; exact List.Perm.append_left _ List.perm_append_comm)
      have w4 : Wf G H ((u2 ++ U) ++ u1) := w.perm (by rw [List.append_assoc]; exact List.perm_append_comm)
      obtain ⟨a1, dx, fs, rfl, ha⟩ := isIns_ok w3.left h1 rl hi.1
      obtain ⟨i, rfl⟩ := isInt1_ok w4.left h2 rl hi.2
      refine ⟨a1, dx, fs, i, rfl, rfl, ha, ?_⟩
      have p2 : Post K T (rE K) WN σ G H ((u1 ++ u2) ++ U) (fCall io F [o1, o2] env) Q := by
        cases q : fCall io F [o1, o2] env with
        | ok o e1 => rw [q] at p; exact p
        | ex c' w' e1 => rw [q] at p; exact p.elim
        | no => rw [q] at p; exact p.elim
      have z := call_ok (W := WN) hn w a rl p2
      exact z
    · exact p.elim
  · exact p.elim
def sMulOwn (c : Str) (io : List Bool) (F : Env → Rf) (a b : SE) : SE := sOp2 (fOwnI c io F) a b
theorem snd_mulOwn {c : Str} {io : List Bool} {F : Env → Rf} {ta tb : TE} {a b : SE} (hn : io.length = 2) (ha : Snd K T (rE K) W ta a) (hb : Snd K T (rE K) W tb b) : Snd K T (rE K) W (tOp (rOwnI (He.ga K c) (spV K 2 F)) ta tb) (sMulOwn c io F a b) := snd_op2 (cbs_ownI hn) ha hb
end
end Vs

namespace Vs
open PySem L2
section
variable {K : PySem.W.Frag} {T : CxA} {ro : List Nat} {W W' : WX} {σ σ1 : St} {G H G1 H1 G2 H2 G' H' : Hp} {U U1 U2 U' u u' R : List Addr} {env : Env}
end
end Vs

namespace PySem.W
open PySem PySem.Spec PyProof.Rows
section
variable {prog : Program} {w : World} {A : Around} {E : Value → Shared → Prop} {K : Frag} {h₀ : Heap} {L : List Addr} {m : Nat} {s : Shared} {C x y f : Addr} {ox oy : Obj} {od od' : Option Obj}
theorem own_bin {op : Operator} {Q : Value → Shared → Prop} (X : K.In s.heap) (I : InstAt s.heap x ox C od) (J : InstAt s.heap y oy C od') (hc : selfFirst K C = true)
    (hs : findIn K (.ref C) (PySem.dunder op.info.2) = some (some (.ref f))) (hf : isFn K (.ref f) = true)
    (h : wpAny (model prog w) A (call (.ref f) [.ref x, .ref y]) (CmpBack Q) E s) : wpAny (model prog w) A (binaryOp op (.ref x) (.ref y)) Q E s := by
  obtain ⟨cd, rest, hcd, hm⟩ := ksp_first hc
  rcases hi : op.info with ⟨sym, nm⟩
  rw [hi] at hs
  have first := ksp_try X I hs hf h
  obtain ⟨hh, g, d, tt, os⟩ := s
  have ty1 : Looks (model prog w) hh (typeOf (.ref x)) (.ref C) := I.type
  have ty2 : Looks (model prog w) hh (typeOf (.ref y)) (.ref C) := J.type
  have fill : Looks (model prog w) hh (fillsNumberSlot (.ref C) nm) true := fills_K X hcd hm hs
  have same : (Value.ref C == Value.ref C) = true := beq_self_eq_true _
  simp only [binaryOp, hi]
  refine wpAny_holding (wpAny_bind ?_)
  unfold binaryOp1
  refine wpAny_bind (ty1.at (wpAny_bind (ty2.at (wpAny_bind (fill.at ?_)))))
  simp only [same, if_true]
  ksp_lk
  refine wpAny_mono first (fun r s' ⟨v, e, q⟩ => ?_) fun _ _ e => e
  subst e
  ksp_lk
  exact q
end
end PySem.W
namespace L2
open PySem PySem.Spec PyProof.Rows
section
variable {X : Cx} {CX : CXT} {C f f2 : Addr} {fd : FuncData} {ps : List Str} {sp : Sp} {k : Nat} {g : List Value → List Value → List Value} {gV : List V → List V → List V} {op : Operator} {nm rn : Str}
theorem op_binOwn (e1 : PySem.dunder op.info.2 = nm) (m : Meth X.K C nm f) (sf : PySem.W.selfFirst X.K C = true) (F : FnG X.prog X.w X.K X.mg X.base CX k f fd ps sp) (hr : Room k X.A) (hgd : X.A.guards = some []) (hb : KBn X.K fd ps 2 [] g gV) (hgV : ∀ x y, gV [x, y] [] = [x, y])
    (hx : ∀ σ, PassesAt CX X σ (fun _ _ _ => False)) : OpR X (binaryOp op) (rOwn C sp) := by
  intro pins s σ H x y v u Q I rx ry h
  obtain ⟨a, b, dx, dy, fs, gs, rfl, rfl, ha, hb', hsp⟩ := h
  cases rx
  cases ry
  obtain ⟨mA, J, _⟩ := ins_get I.hok ha
  obtain ⟨mB, J', _⟩ := ins_get I.hok hb'
  obtain ⟨oa, J, _⟩ := J.look
  obtain ⟨ob, J', _⟩ := J'.look
  obtain ⟨mf, hF⟩ := I.fr
  subst e1
  show wpAny (model X.prog X.w) X.A (binaryOp op (.ref a) (.ref b)) (EP X pins σ Q) X.xe s
  refine PySem.W.own_bin (I.ok.mod.kin.keeps hF.keep) J J' sf m.at_ m.fn ?_
  refine wpAny_mono (run_callG (us := [.ref a, .ref b]) (vs := [.ref a, .ref b]) (ws := []) (zs := []) (E := fun _ _ _ _ => False) F hr hgd hb (hx σ) I (.cons rfl (.cons rfl .nil)) .nil rfl rfl (by rw [hgV]; exact hsp)) (fun r s' z => ?_) fun _ _ e => e
  obtain ⟨z, H', I', rz, q⟩ := z
  cases r with
  | notImplemented => cases z <;> first | exact (show False from rz).elim | (obtain ⟨_, e⟩ := rz; exact nomatch e) | exact nomatch rz
  | _ => exact ⟨z, H', I', rz, q⟩
theorem op_binInt (e1 : PySem.dunder op.info.2 = nm) (e2 : dunderR op.info.2 = rn) (h1 : ∃ fo, PySem.W.findIn X.K (.type "int") (PySem.dunder op.info.2) = some fo) (h2 : ∃ ro, PySem.W.findIn X.K (.type "int") (dunderR op.info.2) = some ro) (m : Meth X.K C nm f) (rm : Meth X.K C rn f2) (sf : PySem.W.selfFirst X.K C = true) (F : FnG X.prog X.w X.K X.mg X.base CX k f fd ps sp) (hr : Room k X.A) (hgd : X.A.guards = some []) (hb : KBn X.K fd ps 2 [] g gV) (hgV : ∀ x y, gV [x, y] [] = [x, y])
    (hx : ∀ σ, PassesAt CX X σ (fun _ _ _ => False)) : OpR X (binaryOp op) (rOwnI C sp) := by
  intro pins s σ H x y v u Q I rx ry h
  obtain ⟨a, dx, fs, i, rfl, rfl, ha, hsp⟩ := h
  cases rx
  obtain ⟨mA, J, _⟩ := ins_get I.hok ha
  obtain ⟨oa, J, _⟩ := J.look
  obtain ⟨mf, hF⟩ := I.fr
  obtain ⟨t, rfl⟩ : ∃ t, u = .int i t := ry
  subst e1
  subst e2
  show wpAny (model X.prog X.w) X.A (binaryOp op (.ref a) (.int i t)) (EP X pins σ Q) X.xe s
  obtain ⟨fo, h1⟩ := h1
  obtain ⟨ro, h2⟩ := h2
  refine PySem.W.ksp_binT (op := op) (T := "int") hF I.ok.mod.kin J rfl sf m.at_ m.fn rm.at_ (.inr ⟨_, rfl⟩) h1 h2 rfl ?_
  refine wpAny_mono (run_callG (us := [.ref a, .int i t]) (vs := [.ref a, .int i]) (ws := []) (zs := []) (E := fun _ _ _ _ => False) F hr hgd hb (hx σ) I (.cons rfl (.cons ⟨t, rfl⟩ .nil)) .nil rfl rfl (by rw [hgV]; exact hsp)) (fun r s' z => ?_) fun _ _ e => e
  obtain ⟨z, H', I', rz, q⟩ := z
  cases r with
  | notImplemented => cases z <;> first | exact (show False from rz).elim | (obtain ⟨_, e⟩ := rz; exact nomatch e) | exact nomatch rz
  | _ => exact ⟨z, H', I', rz, q⟩
end
end L2

namespace L2
open PySem PySem.Spec PySem.Calls PyProof.Rows
section
variable {X : Cx} {CX : CXT} {C f : Addr} {fd : FuncData} {ps : List Str} {sp : Sp} {k : Nat} {g : List Value → List Value → List Value} {gV : List V → List V → List V}
end
end L2
namespace Vs
open PySem L2
section
variable {K : PySem.W.Frag} {T : CxA} {ro : List Nat} {W W' : WX} {σ σ1 : St} {G H G1 H1 G2 H2 G' H' : Hp} {U U1 U2 U' u u' R : List Addr} {env : Env}
end
end Vs
namespace L2
open PySem PySem.Spec PyProof.Rows
section
variable {X : Cx} {K : PySem.W.Frag}
end
end L2
namespace Vs
open PySem L2
section
variable {K : PySem.W.Frag}
end
end Vs
namespace Vs
open PySem L2
section
variable {K : PySem.W.Frag} {T : CxA} {ro : List Nat} {W : WX} {σ : St} {G H G1 H1 G2 H2 G' H' : Hp} {U U1 U2 U' u u' R : List Addr} {env : Env}
end
end Vs
namespace Vs
open PySem L2
section
variable {K : PySem.W.Frag} {T : CxA} {ro : List Nat} {W : WX}
end
end Vs

namespace Vs
theorem eqs_there : True := by
  have := @gAbs.eq_1
  have := @gAdd.eq_1
  have := @gAdd.eq_2
  have := @gAdd.eq_3
  have := @gAdd.eq_4
  have := @gDiv.eq_1
  have := @gGe.eq_1
  have := @gGt.eq_1
  have := @gGt.eq_2
  have := @gInt.eq_1
  have := @gInt.eq_2
  have := @gLe.eq_1
  have := @gLe.eq_2
  have := @gLen.eq_1
  have := @gLen.eq_2
  have := @gLen.eq_3
  have := @gLen.eq_4
  have := @gLen.eq_5
  have := @gLen.eq_6
  have := @gLt.eq_1
  have := @gLt.eq_2
  have := @gMinus.eq_1
  have := @gMod.eq_1
  have := @gNeg.eq_1
  have := @seqD.eq_1
  have := @seqD.eq_2
  have := @seqD.eq_3
  have := @seqD.eq_4
  have := @seqD.eq_5
  trivial
end Vs

namespace L2
open PySem PySem.Spec PyProof.Rows
section
variable {X : Cx} {CX : CXT} {C f : Addr} {fd : FuncData} {ps : List Str} {sp : Sp} {k : Nat} {g : List Value → List Value → List Value} {gV : List V → List V → List V}
end
end L2
namespace Vs
open PySem L2
section
variable {K : PySem.W.Frag} {T : CxA} {ro : List Nat} {W W' : WX} {σ σ1 : St} {G H G1 H1 G2 H2 G' H' : Hp} {U U1 U2 U' u u' R : List Addr} {env : Env}
end
end Vs

namespace Vs
open PySem L2
section
variable {K : PySem.W.Frag} {T : CxA} {ro : List Nat} {W : WX} {σ : St} {G H G1 H1 G2 H2 G' H' : Hp} {U U1 U2 U' u u' R : List Addr} {env : Env}
theorem RelL.write : ∀ {vs : List V} {ds : List D} {ms : List M} {u : List Addr} {j : Nat} {z : D}, RelL K G H vs ds ms u → ds[j]? = some z → ms.getD j .fz = .nd true [] → u.Nodup →
    ∃ v u1, vs[j]? = some v ∧ RelD K G H v z (.nd true []) u1 ∧ (∀ b ∈ u1, b ∈ u) ∧ ∀ G' H' z', Le G G' → RelD K G' H' v z' (.nd true []) u1 → (∀ b ∈ u, b ∉ u1 → H' b = H b) → RelL K G' H' vs (ds.set j z') ms u
  | _, _, _, _, j, l, .fz h, e, hm, _ => by simp at hm
  | _, _, _, _, 0, l, @RelL.cons _ _ _ v d m u1 vs ds ms u2 h t, e, hm, nd => by
    obtain ⟨n1, n2, n3⟩ := List.nodup_append.mp nd
    rw [List.getElem?_cons_zero] at e
    cases e
    simp only [List.getD_cons_zero] at hm
    subst hm
    refine ⟨v, u1, by simp, h, fun b hb => List.mem_append_left _ hb, fun G' H' z' s k1 k2 => ?_⟩
    rw [List.set_cons_zero]
    exact .cons k1 (t.mono s fun b hb => k2 b (List.mem_append_right _ hb) fun z => n3 b z b hb rfl)
  | _, _, _, _, j + 1, l, @RelL.cons _ _ _ v d m u1 vs ds ms u2 h t, e, hm, nd => by
    obtain ⟨n1, n2, n3⟩ := List.nodup_append.mp nd
    rw [List.getElem?_cons_succ] at e
    simp only [List.getD_cons_succ] at hm
    obtain ⟨v', u3, h1, h2, h3, h4⟩ := RelL.write t e hm n2
    refine ⟨v', u3, by rw [List.getElem?_cons_succ]; exact h1, h2, fun b hb => List.mem_append_right _ (h3 b hb), fun G' H' z' s k1 k2 => ?_⟩
    rw [List.set_cons_succ]
    exact .cons (h.mono s fun b hb => k2 b (List.mem_append_left _ hb) fun z => n3 b hb b (h3 b z) rfl) (h4 G' H' z' s k1 fun b hb => k2 b (List.mem_append_right _ hb))
end
end Vs

namespace L2
open PySem PySem.Spec PyProof.Rows PySem.PyData SeqAt
open AutoSeq1 (wpAny_loadPart')
open MeetsSeq MeetsSeq2 MeetsSeq3
end L2

namespace Vs
open PySem L2
section
variable {K : PySem.W.Frag} {X : Cx}
end
end Vs

namespace Vs
open PySem L2
section
variable {K : PySem.W.Frag} {T : CxA} {ro : List Nat} {W : WX} {σ : St} {G H G1 H1 G2 H2 G' H' : Hp} {U U1 U2 U' u u' R : List Addr} {env : Env}
end
end Vs

namespace L2
open PySem PySem.Spec PyProof.Rows PySem.PyData SeqAt
open AutoSeq1 (wpAny_loadPart')
open MeetsSeq MeetsSeq2 MeetsSeq3
theorem int_add_ref (l C dx : Addr) (i : Int) (t : Tok) : Meets (Builtin.«int.__add__» ⟨[.int i t, .ref l], []⟩) (fun _ R s => s.heap.get? l = some (PySem.W.instObj C dx) ∧ R (.ok (.ret .notImplemented)) s) :=
  .of_wp fun prog w A R s h => by
    obtain ⟨hp, g, d, tk, os⟩ := s
    obtain ⟨hl, h⟩ := h
    unfold PySem.W.instObj at hl
    wp_walk using wpAny_loadPart' hl, wpAny_load hl
    exact ⟨_, rfl, h⟩
theorem int_sub_ref (l C dx : Addr) (i : Int) (t : Tok) : Meets (Builtin.«int.__sub__» ⟨[.int i t, .ref l], []⟩) (fun _ R s => s.heap.get? l = some (PySem.W.instObj C dx) ∧ R (.ok (.ret .notImplemented)) s) :=
  .of_wp fun prog w A R s h => by
    obtain ⟨hp, g, d, tk, os⟩ := s
    obtain ⟨hl, h⟩ := h
    unfold PySem.W.instObj at hl
    wp_walk using wpAny_loadPart' hl, wpAny_load hl
    exact ⟨_, rfl, h⟩
theorem int_mul_ref (l C dx : Addr) (i : Int) (t : Tok) : Meets (Builtin.«int.__mul__» ⟨[.int i t, .ref l], []⟩) (fun _ R s => s.heap.get? l = some (PySem.W.instObj C dx) ∧ R (.ok (.ret .notImplemented)) s) :=
  .of_wp fun prog w A R s h => by
    obtain ⟨hp, g, d, tk, os⟩ := s
    obtain ⟨hl, h⟩ := h
    unfold PySem.W.instObj at hl
    wp_walk using wpAny_loadPart' hl, wpAny_load hl
    exact ⟨_, rfl, h⟩
section
variable {prog : Program} {w : World} {A : Around} {E : Value → Shared → Prop} {s : Shared} {l C dx : Addr}
def Dec (prog : Program) (w : World) (A : Around) (E : Value → Shared → Prop) (s : Shared) (nm : String) (l : Addr) : Prop := ∀ (i : Int) (t : Tok) (Q : Option Value → Shared → Prop), Q none s → wpAny (model prog w) A (tryMethod (.int i t) (PySem.dunder nm) (.ref l)) Q E s
theorem dec_any {nm : Str} {id : String} {B : Builtin} {i : Int} {t : Tok} {Q : Option Value → Shared → Prop} (sl : Slot "int" nm id) (en : entryFor table id = some B) (ar : argsOk id ⟨[.int i t, .ref l], []⟩)
    (g : Meets (B ⟨[.int i t, .ref l], []⟩) (fun _ R s => s.heap.get? l = some (PySem.W.instObj C dx) ∧ R (.ok (.ret .notImplemented)) s)) (ho : s.heap.get? l = some (PySem.W.instObj C dx)) (q : Q none s) : wpAny (model prog w) A (tryMethod (.int i t) nm (.ref l)) Q E s :=
  wpAny_tryMethod_declines (typeIs_int s i t) sl (call_meets sl (typeIs_int s i t) en ar g ⟨ho, rfl, q⟩)
theorem dec_add (ho : s.heap.get? l = some (PySem.W.instObj C dx)) : Dec prog w A E s "add" l := by
  unfold Dec
  have sl := F.slot_int_add
  generalize PySem.dunder "add" = nm at *
  exact fun i t Q q => dec_any sl F.entry_int_add (F.args_int_add_2 _ _) (int_add_ref l C dx i t) ho q
theorem dec_sub (ho : s.heap.get? l = some (PySem.W.instObj C dx)) : Dec prog w A E s "sub" l := by
  unfold Dec
  have sl := F.slot_int_sub
  generalize PySem.dunder "sub" = nm at *
  exact fun i t Q q => dec_any sl F.entry_int_sub (F.args_int_sub_2 _ _) (int_sub_ref l C dx i t) ho q
theorem dec_mul (ho : s.heap.get? l = some (PySem.W.instObj C dx)) : Dec prog w A E s "mul" l := by
  unfold Dec
  have sl := F.slot_int_mul
  generalize PySem.dunder "mul" = nm at *
  exact fun i t Q q => dec_any sl F.entry_int_mul (F.args_int_mul_2 _ _) (int_mul_ref l C dx i t) ho q
end
end L2
namespace PySem.W
open PySem PySem.Spec PyProof.Rows
section
variable {prog : Program} {w : World} {A : Around} {E : Value → Shared → Prop} {K : Frag} {s : Shared} {C x f f0 : Addr} {ox : Obj} {od : Option Obj}
theorem own_rbin {op : Operator} {Q : Value → Shared → Prop} {i : Int} {t : Tok} (X : K.In s.heap) (I : InstAt s.heap x ox C od) (hc : selfFirst K C = true)
    (hs : findIn K (.ref C) (PySem.dunder op.info.2) = some (some (.ref f0))) (hr : findIn K (.ref C) (dunderR op.info.2) = some (some (.ref f))) (hf : isFn K (.ref f) = true)
    (hl : fillsNumberSlot (.type "int") op.info.2 = pure true) (hsub : kitOne K (.ref C) (.type "int") = some false) (dec : L2.Dec prog w A E s op.info.2 x)
    (h : wpAny (model prog w) A (call (.ref f) [.ref x, .int i t]) (CmpBack Q) E s) : wpAny (model prog w) A (binaryOp op (.int i t) (.ref x)) Q E s := by
  obtain ⟨cd, rest, hcd, hm⟩ := ksp_first hc
  rcases hi : op.info with ⟨sym, nm⟩
  rw [hi] at hs hr hl dec
  dsimp only at hs hr hl dec
  have one := ksp_try X I hr hf h
  have dc := dec i t
  obtain ⟨hh, g, d, tt, os⟩ := s
  have ty1 : Looks (model prog w) hh (typeOf (.int i t)) (.type "int") := Looks.of_pure rfl
  have ty2 : Looks (model prog w) hh (typeOf (.ref x)) (.ref C) := I.type
  have fill1 : Looks (model prog w) hh (fillsNumberSlot (.type "int") nm) true := Looks.of_pure hl
  have fill2 : Looks (model prog w) hh (fillsNumberSlot (.ref C) nm) true := fills_K X hcd hm hs
  have L5 : Looks (model prog w) hh (isSubtype (.ref C) (.type "int")) false := by
    have e : (Value.ref C == Value.type "int") = false := Bool.eq_false_iff.mpr fun q => by cases beq_iff_eq.mp q
    unfold kitOne at hsub
    rw [e, if_neg Bool.false_ne_true] at hsub
    exact (kit_cls X hsub).2.2
  have L7 : Looks (model prog w) hh (numberSlotInPython (.type "int") nm) false := Looks.of_pure rfl
  have hne : (Value.type "int" == Value.ref C) = false := Bool.eq_false_iff.mpr fun q => by cases beq_iff_eq.mp q
  simp only [binaryOp, hi]
  refine wpAny_holding (wpAny_bind ?_)
  unfold binaryOp1
  refine wpAny_bind (ty1.at (wpAny_bind (ty2.at (wpAny_bind (fill1.at ?_)))))
  simp only [hne, Bool.false_eq_true, if_false]
  refine wpAny_bind (fill2.at ?_)
  simp only [Bool.and_self, if_true]
  ksp_lk
  refine dc _ ?_
  ksp_lk
  refine wpAny_mono one (fun r s' ⟨v, e, q⟩ => ?_) fun _ _ e => e
  subst e
  ksp_lk
  exact q
end
end PySem.W
namespace L2
open PySem PySem.Spec PyProof.Rows
def rOwnR (C : Addr) (sp : Sp) : R2 := fun x y H Q => ∃ a dx fs i, y = .ref a ∧ x = .int i ∧ H a = some (.ins C dx fs) ∧ sp [y, x] H Q (fun _ _ _ => False)
def rNegOwn (C : Addr) (sp : Sp) : V → Hp → VK → Prop := fun x H Q => ∃ a dx fs, x = .ref a ∧ H a = some (.ins C dx fs) ∧ sp [x] H Q (fun _ _ _ => False)
section
variable {X : Cx} {CX : CXT} {C f f2 : Addr} {fd : FuncData} {ps : List Str} {sp : Sp} {k : Nat} {g : List Value → List Value → List Value} {gV : List V → List V → List V} {op : Operator} {nm rn : Str}
theorem op_rOwn (e1 : PySem.dunder op.info.2 = nm) (e2 : dunderR op.info.2 = rn) (hl : fillsNumberSlot (.type "int") op.info.2 = pure true) (m : Meth X.K C nm f2) (rm : Meth X.K C rn f) (sf : PySem.W.selfFirst X.K C = true) (hsub : PySem.W.kitOne X.K (.ref C) (.type "int") = some false)
    (dec : ∀ (s : Shared) (l dx : Addr) (E : Value → Shared → Prop) (A : Around), s.heap.get? l = some (PySem.W.instObj C dx) → Dec X.prog X.w A E s op.info.2 l)
    (F : FnG X.prog X.w X.K X.mg X.base CX k f fd ps sp) (hr : Room k X.A) (hgd : X.A.guards = some []) (hb : KBn X.K fd ps 2 [] g gV) (hgV : ∀ x y, gV [x, y] [] = [x, y])
    (hx : ∀ σ, PassesAt CX X σ (fun _ _ _ => False)) : OpR X (binaryOp op) (rOwnR C sp) := by
  intro pins s σ H x y v u Q I rx ry h
  obtain ⟨a, dx, fs, i, rfl, rfl, ha, hsp⟩ := h
  cases ry
  obtain ⟨mA, J, _⟩ := ins_get I.hok ha
  obtain ⟨oa, J2, _⟩ := J.look
  obtain ⟨mf, hF⟩ := I.fr
  obtain ⟨t, rfl⟩ : ∃ t, v = .int i t := rx
  subst e1
  subst e2
  show wpAny (model X.prog X.w) X.A (binaryOp op (.int i t) (.ref a)) (EP X pins σ Q) X.xe s
  refine PySem.W.own_rbin (I.ok.mod.kin.keeps hF.keep) J2 sf m.at_ rm.at_ rm.fn hl hsub (dec s a dx _ _ J.1) ?_
  refine wpAny_mono (run_callG (us := [.ref a, .int i t]) (vs := [.ref a, .int i]) (ws := []) (zs := []) (E := fun _ _ _ _ => False) F hr hgd hb (hx σ) I (.cons rfl (.cons ⟨t, rfl⟩ .nil)) .nil rfl rfl (by rw [hgV]; exact hsp)) (fun r s' z => ?_) fun _ _ e => e
  obtain ⟨z, H', I', rz, q⟩ := z
  cases r with
  | notImplemented => cases z <;> first | exact (show False from rz).elim | (obtain ⟨_, e⟩ := rz; exact nomatch e) | exact nomatch rz
  | _ => exact ⟨z, H', I', rz, q⟩
theorem un_negOwn (m : Meth X.K C "__neg__" f) (F : FnG X.prog X.w X.K X.mg X.base CX k f fd ps sp) (hr : Room k X.A) (hgd : X.A.guards = some []) (hb : KBn X.K fd ps 1 [] g gV) (hgV : ∀ x, gV [x] [] = [x])
    (hx : ∀ σ, PassesAt CX X σ (fun _ _ _ => False)) : UnR X (unaryOp .USub) (rNegOwn C sp) := by
  intro pins s σ H x v Q I rx h
  obtain ⟨a, dx, fs, rfl, ha, hsp⟩ := h
  cases rx
  obtain ⟨mA, J, _⟩ := ins_get I.hok ha
  obtain ⟨oa, J2, _⟩ := J.look
  obtain ⟨mf, hF⟩ := I.fr
  refine PySem.W.ksp_neg hF I.ok.mod.kin J2 m.at_ m.fn ?_
  exact run_callG (us := [.ref a]) (vs := [.ref a]) (ws := []) (zs := []) (E := fun _ _ _ _ => False) F hr hgd hb (hx σ) I (.cons rfl .nil) .nil rfl rfl (by rw [hgV]; exact hsp)
end
end L2
namespace L2
open PySem PySem.Spec PyProof.Rows
def Plain (K : PySem.W.Frag) (H : Hp) (y : V) : Prop := (∃ i, y = .int i) ∨ y = .non ∨ (∃ b, y = .bl b) ∨ (∃ w, y = .str w) ∨ ∃ p xs, y = .ref p ∧ SqT K H p xs
def rOwnP (K : PySem.W.Frag) (C : Addr) (sp : Sp) : R2 := fun x y H Q => ∃ a dx fs, x = .ref a ∧ H a = some (.ins C dx fs) ∧ Plain K H y ∧ sp [x, y] H Q (fun _ _ _ => False)
section
variable {X : Cx} {CX : CXT} {C f : Addr} {fd : FuncData} {ps : List Str} {sp : Sp} {k : Nat} {g : List Value → List Value → List Value} {gV : List V → List V → List V}
theorem op_eqPlain (m : Meth X.K C "__eq__" f) (F : FnG X.prog X.w X.K X.mg X.base CX k f fd ps sp) (hr : Room k X.A) (hgd : X.A.guards = some []) (hb : KBn X.K fd ps 2 [] g gV) (hgV : ∀ x y, gV [x, y] [] = [x, y])
    (hx : ∀ σ, PassesAt CX X σ (fun _ _ _ => False)) : OpR X (compareOp .Eq) (rOwnP X.K C sp) := by
  intro pins s σ H x y v u Q I rx ry h
  obtain ⟨a, dx, fs, rfl, ha, hy, hsp⟩ := h
  cases rx
  obtain ⟨mA, J, _⟩ := ins_get I.hok ha
  obtain ⟨od, J, _⟩ := J.look
  obtain ⟨mf, hF⟩ := I.fr
  show wpAny (model X.prog X.w) X.A (richCompare .Eq (.ref a) u) (EP X pins σ Q) X.xe s
  have fin : ∀ T : String, PySem.W.Looks (model X.prog X.w) s.heap (typeOf u) (.type T) → PySem.W.notFirst X.K C (.type T) = true → wpAny (model X.prog X.w) X.A (richCompare .Eq (.ref a) u) (EP X pins σ Q) X.xe s := fun T lk nf => by
    refine PySem.W.cmp_K (op := .Eq) (tb := .type T) hr.units0 hF I.ok.mod.kin J lk nf m.at_ m.fn ?_
    refine wpAny_mono (run_callG (us := [.ref a, u]) (vs := [.ref a, y]) (ws := []) (zs := []) (E := fun _ _ _ _ => False) F hr hgd hb (hx σ) I (.cons rfl (.cons ry .nil)) .nil rfl rfl (by rw [hgV]; exact hsp)) (fun r s' z => ?_) fun _ _ e => e
    obtain ⟨z, H', I', rz, q⟩ := z
    cases r with
    | notImplemented => cases z <;> first | exact (show False from rz).elim | (obtain ⟨_, e⟩ := rz; exact nomatch e) | exact nomatch rz
    | _ => exact ⟨z, H', I', rz, q⟩
  rcases hy with ⟨i, rfl⟩ | rfl | ⟨b, rfl⟩ | ⟨w, rfl⟩ | ⟨p, xs, rfl, hq⟩
  · obtain ⟨t, rfl⟩ := ry
    exact fin "int" (PySem.W.Looks.of_pure rfl) (by simp [PySem.W.notFirst]; rfl)
  · cases ry
    exact fin "NoneType" (PySem.W.Looks.of_pure rfl) (by simp [PySem.W.notFirst]; rfl)
  · cases ry
    exact fin "bool" (PySem.W.Looks.of_pure rfl) (by simp [PySem.W.notFirst]; rfl)
  · obtain ⟨t, rfl⟩ := ry
    exact fin "str" (PySem.W.Looks.of_pure rfl) (by simp [PySem.W.notFirst]; rfl)
  · cases ry
    obtain ⟨its, rv, il, _⟩ := I.tuple hq
    obtain ⟨o, ho, hc, _⟩ := il
    exact fin "tuple" (fun A Q E s' k q => wpAny_typeOf ⟨o, k _ _ ho, hc⟩ q) (by simp [PySem.W.notFirst]; rfl)
end
end L2

namespace Vs
open PySem L2
section
variable {K : PySem.W.Frag} {T : CxA} {ro : List Nat} {W W' : WX} {σ σ1 : St} {G H G1 H1 G2 H2 G' H' : Hp} {U U1 U2 U' u u' R : List Addr} {env : Env}
def only (r : Rs OR) : Rs OR := match r with
  | .ok o e => .ok o e
  | _ => .no
theorem only_post {r : Rs OR} {Q : VK} (p : Post K T (rE K) W σ G H U (only r) Q) : Post K T (rE K) WN σ G H U r Q := by
  cases r with
  | ok o e => exact p
  | ex c w e => exact p.elim
  | no => exact p.elim
def fNegOwn (c : Str) (io : List Bool) (F : Env → Rf) (os : List OR) (e : Env) : Rs OR := match os with
  | [o1] => if isIns c o1 e then only (fCall io F [o1] e) else .no
  | _ => .no
theorem cbs_negOwn {c : Str} {io : List Bool} {F : Env → Rf} (hn : io.length = 1) : CbS K T W (l1 (rNegOwn (He.ga K c) (spV K 1 F))) (fNegOwn c io F) := fun σ G H vs os u env U Q w a rl p => by
  unfold fNegOwn at p
  split at p
  · rename_i o1
    obtain ⟨x, rfl, h1⟩ := ras_one a
    split at p
    · rename_i hi
      obtain ⟨a1, dx, fs, rfl, ha⟩ := isIns_ok w h1 rl hi
      exact ⟨a1, dx, fs, rfl, ha, call_ok (W := WN) hn w a rl (only_post p)⟩
    · exact p.elim
  · exact p.elim
def fOwnA (c : Str) (io : List Bool) (F : Env → Rf) (os : List OR) (e : Env) : Rs OR := match os with
  | [o1, o2] => if isIns c o1 e && (isIns c o2 e || isInt1 o2 e) then only (fCall io F [o1, o2] e) else .no
  | _ => .no
theorem cbs_ownA {c : Str} {io : List Bool} {F : Env → Rf} (hn : io.length = 2) : CbS K T W (l2 (orR (rOwn (He.ga K c) (spV K 2 F)) (rOwnI (He.ga K c) (spV K 2 F)))) (fOwnA c io F) := fun σ G H vs os u env U Q w a rl p => by
  unfold fOwnA at p
  split at p
  · rename_i o1 o2
    obtain ⟨x, y, u1, u2, rfl, rfl, h1, h2⟩ := ras_two a
    split at p
    · rename_i hi
      rw [Bool.and_eq_true, Bool.or_eq_true] at hi
      have w3 : Wf G H ((u1 ++ U) ++ u2) := w.perm (by rw [List.append_assoc, List.append_assoc]; exact List.Perm.append_left _ List.perm_append_comm)
      have w4 : Wf G H ((u2 ++ U) ++ u1) := w.perm (by rw [List.append_assoc]; exact List.perm_append_comm)
      obtain ⟨a1, dx, fs, rfl, ha⟩ := isIns_ok w3.left h1 rl hi.1
      have z := call_ok (W := WN) hn w a rl (only_post p)
      rcases hi.2 with h | h
      · obtain ⟨b1, dy, gs, rfl, hb⟩ := isIns_ok w4.left h2 rl h
        exact .inl ⟨a1, b1, dx, dy, fs, gs, rfl, rfl, ha, hb, z⟩
      · obtain ⟨i, rfl⟩ := isInt1_ok w4.left h2 rl h
        exact .inr ⟨a1, dx, fs, i, rfl, rfl, ha, z⟩
    · exact p.elim
  · exact p.elim
def fOwnR (c : Str) (io io2 : List Bool) (F F2 : Env → Rf) (os : List OR) (e : Env) : Rs OR := match os with
  | [o1, o2] => if isIns c o2 e then (if isIns c o1 e then only (fCall io F [o1, o2] e) else if isInt1 o1 e then only (fCall io2 F2 [o2, o1] e) else .no) else .no
  | _ => .no
theorem cbs_ownR {c : Str} {io io2 : List Bool} {F F2 : Env → Rf} (hn : io.length = 2) (hn2 : io2.length = 2) : CbS K T W (l2 (orR (rOwn (He.ga K c) (spV K 2 F)) (rOwnR (He.ga K c) (spV K 2 F2)))) (fOwnR c io io2 F F2) := fun σ G H vs os u env U Q w a rl p => by
  unfold fOwnR at p
  split at p
  · rename_i o1 o2
    obtain ⟨x, y, u1, u2, rfl, rfl, h1, h2⟩ := ras_two a
    have w3 : Wf G H ((u1 ++ U) ++ u2) := w.perm (by rw [List.append_assoc, List.append_assoc]; exact List.Perm.append_left _ List.perm_append_comm)
    have w4 : Wf G H ((u2 ++ U) ++ u1) := w.perm (by rw [List.append_assoc]; exact List.perm_append_comm)
    split at p
    · rename_i hi2
      obtain ⟨b1, dy, gs, rfl, hb⟩ := isIns_ok w4.left h2 rl hi2
      split at p
      · rename_i hi1
        obtain ⟨a1, dx, fs, rfl, ha⟩ := isIns_ok w3.left h1 rl hi1
        exact .inl ⟨a1, b1, dx, dy, fs, gs, rfl, rfl, ha, hb, call_ok (W := WN) hn w a rl (only_post p)⟩
      · split at p
        · rename_i hi1
          obtain ⟨i, rfl⟩ := isInt1_ok w3.left h1 rl hi1
          have pm : (u1 ++ u2).Perm (u2 ++ u1) := List.perm_append_comm
          have w5 : Wf G H ((u2 ++ u1) ++ U) := w.perm (pm.append_right U)
          have ra : RAs K σ G H [.ref b1, .int i] [o2, o1] (u2 ++ u1) := by
            have := RAs.cons h2 (.cons h1 .nil)
            rw [List.append_nil] at this
            exact this
          refine .inr ⟨b1, dy, gs, i, rfl, rfl, hb, ?_⟩
          refine call_ok (W := WN) hn2 w5 ra rl ?_
          have p3 := only_post p
          revert p3
          cases fCall io2 F2 [o2, o1] env with
          | ok o e1 => exact fun p3 b G' H' u' U' mv re rl' => p3 b G' H' u' U' (mv.permL (pm.symm.append_right U)) re rl'
          | ex c' w' e1 => exact fun p3 dx v G' H' U' mv hd hf rl' => p3 dx v G' H' U' (mv.permL (pm.symm.append_right U)) hd hf rl'
          | no => exact fun p3 => p3
        · exact p.elim
    · exact p.elim
  · exact p.elim
def isPlain1 (o : OR) (e : Env) : Bool := match rd o e with
  | some (.int _) => true
  | some .non => true
  | some (.bl _) => true
  | some (.str _) => true
  | some (.tup _) => true
  | _ => false
theorem isPlain1_ok {v : V} {o : OR} (w : Wf G H (u ++ U)) (h : ROr K σ G H v o u) (r : Rl K T G H σ env U) (e : isPlain1 o env = true) : L2.Plain K H v := by
  unfold isPlain1 at e
  split at e
  · rename_i er
    cases rd_ok w.gh h r er with
    | int i => exact .inl ⟨_, rfl⟩
  · rename_i er
    cases rd_ok w.gh h r er with
    | non => exact .inr (.inl rfl)
  · rename_i er
    cases rd_ok w.gh h r er with
    | bl b => exact .inr (.inr (.inl ⟨_, rfl⟩))
  · rename_i er
    cases rd_ok w.gh h r er with
    | str x => exact .inr (.inr (.inr (.inl ⟨_, rfl⟩)))
  · rename_i er
    cases rd_ok w.gh h r er with
    | @tup a vs ds ht f => exact .inr (.inr (.inr (.inr ⟨a, vs, rfl, ht.sq0⟩)))
  · cases e
def fEqAny (c : Str) (io : List Bool) (F : Env → Rf) (os : List OR) (e : Env) : Rs OR := match os with
  | [o1, o2] => if isIns c o1 e && (isIns c o2 e || isPlain1 o2 e) then only (fCall io F [o1, o2] e) else .no
  | _ => .no
theorem cbs_eqAny {c : Str} {io : List Bool} {F : Env → Rf} (hn : io.length = 2) : CbS K T W (l2 (orR (rOwn (He.ga K c) (spV K 2 F)) (rOwnP K (He.ga K c) (spV K 2 F)))) (fEqAny c io F) := fun σ G H vs os u env U Q w a rl p => by
  unfold fEqAny at p
  split at p
  · rename_i o1 o2
    obtain ⟨x, y, u1, u2, rfl, rfl, h1, h2⟩ := ras_two a
    split at p
    · rename_i hi
      rw [Bool.and_eq_true, Bool.or_eq_true] at hi
      have w3 : Wf G H ((u1 ++ U) ++ u2) := w.perm (by rw [List.append_assoc, List.append_assoc]; exact List.Perm.append_left _ List.perm_append_comm)
      have w4 : Wf G H ((u2 ++ U) ++ u1) := w.perm (by rw [List.append_assoc]; exact List.perm_append_comm)
      obtain ⟨a1, dx, fs, rfl, ha⟩ := isIns_ok w3.left h1 rl hi.1
      have z := call_ok (W := WN) hn w a rl (only_post p)
      rcases hi.2 with h | h
      · obtain ⟨b1, dy, gs, rfl, hb⟩ := isIns_ok w4.left h2 rl h
        exact .inl ⟨a1, b1, dx, dy, fs, gs, rfl, rfl, ha, hb, z⟩
      · exact .inr ⟨a1, dx, fs, rfl, ha, isPlain1_ok w4.left h2 rl h, z⟩
    · exact p.elim
  · exact p.elim
end
end Vs

namespace L2
open PySem PySem.Spec PyProof.Rows
def rIsTF : R2 := fun x y H Q => ∃ a b : Bool, x = .bl a ∧ y = .bl b ∧ Q (.bl (a == b)) H
theorem op_isTF {X : Cx} : OpR X (compareOp .Is) rIsTF := by
  intro pins s σ H x y v u Q I rx ry h
  obtain ⟨a, b, rfl, rfl, q⟩ := h
  cases rx
  cases ry
  show wpAny _ _ ((isSame (Value.bool a) (Value.bool b)) >>= fun z => pure (Value.bool z)) _ _ s
  refine wpAny_bind (wpAny_isSame_plain rfl ?_)
  have e : (Value.bool a == Value.bool b) = (a == b) := by cases a <;> cases b <;> rfl
  rw [e]
  exact wpAny_pure (fin_bl I q rfl)
end L2
namespace Vs
open PySem L2
section
variable {K : PySem.W.Frag}
def gIsBl : List D → Option D
  | [.bl a, .bl b] => some (.bl (a == b))
  | _ => none
theorem rd_isBl : RdR K (l2 rIsTF) gIsBl := fun vs ds z H h e => by
  unfold gIsBl at e
  split at e
  · cases e
    obtain ⟨x, y, rfl, h1, h2⟩ := fzl_two h
    cases h1
    cases h2
    exact ⟨_, fun _ => .bl _, fun Q q => ⟨_, _, rfl, rfl, q⟩⟩
  · cases e
end
end Vs
namespace L2
open PySem PySem.Spec PyProof.Rows
def CDivV (_ j : Int) : Prop := j ≠ 0 ∧ j.natAbs.log2 < 9000
theorem op_fdivV {X : Cx} : OpR X (binaryOp .FloorDiv) (rI CDivV fun i j => .int (i.fdiv j)) := opI fun _ _ _ _ _ _ _ hc q => floordiv_int hc.1 q (.inl (PyProof.noPylong_of_log2 hc.2))
end L2
namespace Vs
open PySem L2
section
variable {K : PySem.W.Frag}
def gDivV : List D → Option D
  | [.int i, .int j] => if j ≠ 0 ∧ j.natAbs.log2 < 9000 then some (.int (i.fdiv j)) else none
  | _ => none
theorem rd_divV : RdR K (l2 (L2.rI CDivV fun i j => V.int (i.fdiv j))) gDivV := fun vs ds z H h e => by
  unfold gDivV at e
  split at e
  · split at e
    · rename_i hc
      cases e
      obtain ⟨x, y, rfl, h1, h2⟩ := fzl_two h
      cases h1; cases h2
      exact ⟨_, fun _ => .int _, fun Q q => ⟨_, _, rfl, rfl, hc, q⟩⟩
    · cases e
  · cases e
end
end Vs

namespace Law
open PySem PySem.Spec PyProof.Rows L2 Nd Vs
local macro_rules | `(tactic| simp_arith! [$ts,*]) => `(tactic| simp only [fnS, sSeq, sIfS, sBind, sTest, sOp2, sOp1, sCB, sCons, sNil, sVar, sLit, Rs.bind_ok, Rs.bind_no, Rs.bind_ex, fRd, fMk, fIx, fIxS, dictAt, tree, rd, rds, cut, cuts, ixD, ixN, kid, isFz, asB, asT, dTru, sTru, sNotT, sAndT, sOrT, sYes, sAndV, sOrV, sNotV, sIf, sChain, sAsg, own, gN, sSkip, sRet, sRetN, sDrop, sStore, fStore, setD, putT, outs, sCall, fCall, prep, wb, gGt, gLt, gGe, gLe, gMod, gInt, gDiv, gAdd, gMulU_int, gMinus, gNeg, gAbs, gLen, sBM, tyO, fAppend, sFor, sRng1, fRng1, sRng2, fRng2, sSeqI, fSeq, Vs.seqD, okV, wipeE, restE, fTup, fLst, takes, normM, isFz, List.all_cons, List.all_nil, List.map_cons, List.map_nil, Bool.and_self, Bool.and_true, Bool.true_and,
    List.length_cons, List.length_nil, List.getElem?_cons_zero, List.getElem?_cons_succ, List.set_cons_zero, List.set_cons_succ, List.append_nil, List.cons_append, List.nil_append, List.replicate, List.getD_cons_zero, List.getD_nil, List.getD_cons_succ, Option.map_some, Option.map_none, Option.bind_some, Option.bind_none, if_true, if_false, ite_true, ite_false, reduceIte, Nat.reduceAdd, Nat.reduceLT, Nat.reduceLeDiff, Nat.reduceEqDiff, Int.reduceLT, Int.reduceLE, Int.reduceNeg, Int.reduceToNat, Int.reduceSub, Int.reduceAdd, decide_true, decide_false, Bool.not_true, Bool.not_false, Bool.false_eq_true, Int.cast_ofNat_Int, Int.ofNat_eq_natCast, Int.natCast_add, Int.le_refl, Int.lt_irrefl, ge_iff_le, gt_iff_lt, ne_eq, not_true_eq_false, not_false_eq_true, and_true, true_and, and_self, Int.toNat_zero, Int.toNat_one, List.isEmpty_nil, $ts,*])
local macro_rules | `(tactic| simp_arith [$ts,*]) => `(tactic| simp only [fnS, sSeq, sIfS, sBind, sTest, sOp2, sOp1, sCB, sCons, sNil, sVar, sLit, Rs.bind_ok, Rs.bind_no, Rs.bind_ex, fRd, fMk, fIx, fIxS, dictAt, tree, rd, rds, cut, cuts, kid, isFz, asB, asT, dTru.eq_1, dTru.eq_2, dTru.eq_3, dTru.eq_4, dTru.eq_5, dTru.eq_6, dTru.eq_7, sTru, sNotT, sAndT, sOrT, sYes, sAndV, sOrV, sNotV, sIf, sChain, sAsg, own, gN, gT2, gTp, gsCons, gsNil, sSkip, sRet, sRetN, sDrop, sStore, fStore, setD, putT, outs, sCall, fCall, prep, wb, gGt.eq_1, gGt.eq_2, gLt.eq_1, gLt.eq_2, gGe.eq_1, gLe.eq_1, gLe.eq_2, gMod.eq_1, gInt.eq_1, gInt.eq_2, gDiv.eq_1, gAdd.eq_1, gAdd.eq_2, gAdd.eq_3, gAdd.eq_4, gMulU_int, gMinus.eq_1, gNeg.eq_1, gAbs.eq_1, gLen.eq_1, gLen.eq_2, gLen.eq_3, gLen.eq_4, gLen.eq_5, gLen.eq_6, sBM, tyO, fAppend, fExtend, sFor, sRng1, fRng1, sRng2, fRng2, sSeqI, fSeq, Vs.seqD.eq_1, Vs.seqD.eq_2, Vs.seqD.eq_3, Vs.seqD.eq_4, Vs.seqD.eq_5, okV, wipeE, restE, fTup, fLst, takes, normM, sLc_eq, fMake, fMakeK, sMake, sMakeK, sCB2, fArr, sCallK, fzAll, fz1, pick, insOf, sMeth, sMethK, sDnew, sWhat, sPart, sNoPart, sSl, fSl, slD, sRaise, lim, ixl0, ixl1, ixl2, ixt0, ixt1, ixt2,
    List.all_cons, List.all_nil, List.map_cons, List.map_nil, Bool.and_self, Bool.and_true, Bool.true_and, Bool.and_false, Bool.false_and, Bool.or_true, Bool.true_or, Bool.or_false, Bool.false_or,
    List.length_cons, List.length_nil, List.getElem?_cons_zero, List.getElem?_cons_succ, List.getElem?_nil, List.set_cons_zero, List.set_cons_succ, List.append_nil, List.cons_append, List.nil_append, List.replicate, List.getD_cons_zero, List.getD_nil, List.getD_cons_succ, List.headD_cons, List.headD_nil, List.tail_cons, List.tail_nil, Option.map_some, Option.map_none, Option.bind_some, Option.bind_none, Option.isNone, if_true, if_false, ite_true, ite_false, reduceIte, Nat.reduceAdd, Nat.reduceLT, Nat.reduceLeDiff, Nat.reduceEqDiff, Int.reduceLT, Int.reduceLE, Int.reduceEq, Int.reduceNeg, Int.reduceToNat, Int.reduceSub, Int.reduceAdd, decide_true, decide_false, Bool.not_true, Bool.not_false, Bool.false_eq_true, Int.cast_ofNat_Int, Int.ofNat_eq_natCast, Int.natCast_add, Int.le_refl, Int.lt_irrefl, ge_iff_le, gt_iff_lt, ne_eq, not_true_eq_false, not_false_eq_true, and_true, true_and, and_self, Int.toNat_zero, Int.toNat_one, List.isEmpty_nil, List.isEmpty_cons, Option.some.injEq, List.filterMap_cons, List.filterMap_nil, $ts,*])
local macro_rules | `(tactic| simp_all_arith [$ts,*]) => `(tactic| (apply q_ev; focus (simp_arith [$ts,*]; try rfl)))
local macro_rules | `(tactic| simp_all_arith! [$ts,*]) => `(tactic| (refine q_seq ?_; simp_all_arith [$ts,*]; refine s_nx ?_))
local macro_rules | `(tactic| simp_all! [$ts,*]) => `(tactic| (apply q_ift; focus (simp_arith [$ts,*]; try rfl)))
local macro_rules | `(tactic| dsimp! [$ts,*]) => `(tactic| (apply q_iff; focus (simp_arith [$ts,*]; try rfl)))
abbrev Env := Vs.Env
def F_LCell : Env → Rf := fnS [false, false] 0
  (sSeq (sIfS (sTest (sOp2 (fRd gLt) (sVar 1) (sCB (fRd gLen) (sCons (sVar 0) sNil))))
  (sRet (sCB (fRd gInt) (sCons (sOp2 fIx (sVar 0) (sVar 1)) sNil))) sSkip)
  (sRet (sLit (.int 0))))
def F_LIsInt : Env → Rf := fnS [false] 0
  (sRet (sAndV (sCB (fRd (gIsi ics)) (sCons (sVar 0) (sCons (sLit (.ty "int")) sNil))) (sNotV (sCB (fRd (gIsi ics)) (sCons (sVar 0) (sCons (sLit (.ty "bool")) sNil))))))
def B_LIsShare_1 : SS :=
  (sIfS (sTest (sOp2 (fRd gGt) (sVar 4) (sLit (.int 0))))
  (sSeq (sAsg (sOp2 (fRd gMod) (sCB (fRd gInt) (sCons (sVar 3) sNil)) (sCB (fRd gInt) (sCons (sVar 4) sNil))) (gN 6))
  (sSeq (sAsg (sVar 4) (gN 3))
  (sAsg (sVar 6) (gN 4)))) sSkip)
def F_LIsShare : Env → Rf := fnS [false, false, false] 4
  (sSeq (sIfS (sOrT (sNotT (sTru (sCB (fRd (gIsi ics)) (sCons (sVar 0) (sCons (sLit (.glo "Share")) sNil))))) (sOrT (sNotT (sTru (sCall [false] F_LIsInt (sCons (sAttr ["Share"] "top" (sVar 0)) sNil)))) (sNotT (sTru (sCall [false] F_LIsInt (sCons (sAttr ["Share"] "bottom" (sVar 0)) sNil))))))
  (sRet (sLit (.bl false))) sSkip)
  (sSeq (sIfS (sOrT (sTest (sOp2 (fRd gLt) (sAttr ["Share"] "bottom" (sVar 0)) (sLit (.int 1)))) (sTest (sOp2 (fRd gNe) (sOp2 (fMk gMulU) (sAttr ["Share"] "top" (sVar 0)) (sVar 2)) (sOp2 (fMk gMulU) (sVar 1) (sAttr ["Share"] "bottom" (sVar 0))))))
  (sRet (sLit (.bl false))) sSkip)
  (sSeq (sAsg (sCB (fRd gAbs) (sCons (sAttr ["Share"] "top" (sVar 0)) sNil)) (gN 3))
  (sSeq (sAsg (sAttr ["Share"] "bottom" (sVar 0)) (gN 4))
  (sSeq (sFor (sRng1 (sCons (sLit (.int 400)) sNil)) (gN 5)
  B_LIsShare_1)
  (sRet (sOp2 (fRd gEq) (sVar 3) (sLit (.int 1)))))))))
def F_LTake : Env → Rf := fnS [true, false] 2
  (sSeq (sIfS (sTest (sOp2 (fRd gGt) (sOp2 fIx (sVar 0) (sLit (.int 0))) (sLit (.int 0))))
  (sSeq (sAsg (sOp2 (fRd gMod) (sCB (fRd gInt) (sCons (sOp2 fIx (sVar 0) (sLit (.int 0))) sNil)) (sVar 1)) (gN 2))
  (sSeq (sStore (sOp2 (fRd gDiv) (sOp2 fIx (sVar 0) (sLit (.int 0))) (sVar 1)) (sVar 0) (sLit (.int 0)))
  (sRet (sVar 2)))) sSkip)
  (sSeq (sStore (sOp2 (fMk gAdd) (sOp2 fIx (sVar 0) (sLit (.int 2))) (sLit (.int 1))) (sVar 0) (sLit (.int 2)))
  (sSeq (sAsg (sOp2 (fRd gMod) (sCB (fRd gInt) (sCons (sOp2 (fMk gMulU) (sOp2 (fMk gAdd) (sOp2 (fMk gAdd) (sOp2 fIx (sVar 0) (sLit (.int 1))) (sOp2 (fMk gMulU) (sLit (.int 6151)) (sOp2 fIx (sVar 0) (sLit (.int 2))))) (sLit (.int 17))) (sLit (.int 48271))) sNil)) (sLit (.int 2147483647))) (gN 3))
  (sSeq (sAsg (sOp2 (fRd gMod) (sCB (fRd gInt) (sCons (sOp2 (fMk gMulU) (sVar 3) (sOp2 (fMk gAdd) (sOp2 (fRd gDiv) (sVar 3) (sLit (.int 1361))) (sLit (.int 69621)))) sNil)) (sLit (.int 2147483399))) (gN 3))
  (sRet (sOp2 (fRd gMod) (sCB (fRd gInt) (sCons (sOp2 (fRd gDiv) (sOp2 (fRd gMod) (sOp2 (fMk gMulU) (sVar 3) (sOp2 (fMk gAdd) (sOp2 (fRd gDiv) (sVar 3) (sLit (.int 2741))) (sLit (.int 40692)))) (sLit (.int 2147483563))) (sLit (.int 11))) sNil)) (sVar 1)))))))
def F_LNumber : Env → Rf := fnS [true] 1
  (sSeq (sAsg (sOp2 fIx (sCB fLst (sCons (sLit (.int 9)) (sCons (sLit (.int 9)) (sCons (sLit (.int 60)) (sCons (sOp2 (fRd gPow) (sLit (.int 10)) (sLit (.int 12))) (sCons (sOp2 (fRd gPow) (sLit (.int 10)) (sLit (.int 40))) sNil)))))) (sCall [true, false] F_LTake (sCons (sVar 0) (sCons (sLit (.int 5)) sNil)))) (gN 1))
  (sRet (sOp2 (fRd gMinus) (sCall [true, false] F_LTake (sCons (sVar 0) (sCons (sOp2 (fMk gAdd) (sOp2 (fMk gMulU) (sLit (.int 2)) (sVar 1)) (sLit (.int 1))) sNil))) (sVar 1))))
def F_LState : Env → Rf := fnS [false] 0
  (sSeq (sIfS (sTest (sOp2 (fRd gGe) (sCB (fRd gAbs) (sCons (sVar 0) sNil)) (sOp2 (fRd gPow) (sLit (.int 10)) (sLit (.int 18)))))
  (sRet (sCB fLst (sCons (sCB (fRd gAbs) (sCons (sVar 0) sNil)) (sCons (sLit (.int 0)) (sCons (sLit (.int 0)) sNil))))) sSkip)
  (sRet (sCB fLst (sCons (sLit (.int 0)) (sCons (sOp2 (fRd gMod) (sCB (fRd gInt) (sCons (sVar 0) sNil)) (sLit (.int 2147483563))) (sCons (sLit (.int 0)) sNil))))))
def F_IsInteger : Env → Rf := fnS [false] 0
  (sRet (sAndV (sCB (fRd (gIsi ics)) (sCons (sVar 0) (sCons (sLit (.ty "int")) sNil))) (sNotV (sCB (fRd (gIsi ics)) (sCons (sVar 0) (sCons (sLit (.ty "bool")) sNil))))))
def B_CommonPart_1 : ST :=
  (sTest (sOp2 (fRd gGt) (sVar 3) (sLit (.int 0))))
def B_CommonPart_2 : SS :=
  (sSeq (sAsg (sOp2 (fRd gMod) (sVar 2) (sVar 3)) (gN 4))
  (sSeq (sAsg (sVar 3) (gN 2))
  (sAsg (sVar 4) (gN 3))))
def F_CommonPart : Env → Rf := fnS [false, false] 3
  (sSeq (sAsg (sCB (fRd gAbs) (sCons (sVar 0) sNil)) (gN 2))
  (sSeq (sAsg (sCB (fRd gAbs) (sCons (sVar 1) sNil)) (gN 3))
  (sSeq (sWhile fuel B_CommonPart_1
  B_CommonPart_2)
  (sRet (sVar 2)))))
def F_Share_Init : Env → Rf := fnS [true, false, false] 1
  (sSeq (sIfS (sNotT (sTru (sCall [false] F_IsInteger (sCons (sVar 1) sNil))))
  (sRaise "BadShare" (sCons (sLit (.str "top")) sNil)) sSkip)
  (sSeq (sIfS (sOrT (sNotT (sTru (sCall [false] F_IsInteger (sCons (sVar 2) sNil)))) (sTest (sOp2 (fRd gEq) (sVar 2) (sLit (.int 0)))))
  (sRaise "BadShare" (sCons (sLit (.str "bottom")) sNil)) sSkip)
  (sSeq (sAsg (sCall [false, false] F_CommonPart (sCons (sVar 1) (sCons (sVar 2) sNil))) (gN 3))
  (sSeq (sIfS (sTest (sOp2 (fRd gLt) (sVar 2) (sLit (.int 0))))
  (sAsg (sOp1 (fRd gNeg) (sVar 3)) (gN 3)) sSkip)
  (sSeq (sStF ["Share"] "top" (sOp2 (fRd gDivV) (sVar 1) (sVar 3)) (sVar 0))
  (sStF ["Share"] "bottom" (sOp2 (fRd gDivV) (sVar 2) (sVar 3)) (sVar 0)))))))
def F_Share_Add : Env → Rf := fnS [false, false] 0
  (sSeq (sIfS (sTru (sCB (fRd (gIsi ics)) (sCons (sVar 1) (sCons (sLit (.glo "Share")) sNil))))
  (sRet (sMakeK "Share" 2 0 [0, 1] [(.int 1)] [true, false, false] F_Share_Init (sCons (sOp2 (fMk gAdd) (sOp2 (fMk gMulU) (sAttr ["Share"] "top" (sVar 0)) (sAttr ["Share"] "bottom" (sVar 1))) (sOp2 (fMk gMulU) (sAttr ["Share"] "top" (sVar 1)) (sAttr ["Share"] "bottom" (sVar 0)))) (sCons (sOp2 (fMk gMulU) (sAttr ["Share"] "bottom" (sVar 0)) (sAttr ["Share"] "bottom" (sVar 1))) sNil)) sNil)) sSkip)
  (sSeq (sIfS (sTru (sCall [false] F_IsInteger (sCons (sVar 1) sNil)))
  (sRet (sMakeK "Share" 2 0 [0, 1] [(.int 1)] [true, false, false] F_Share_Init (sCons (sOp2 (fMk gAdd) (sAttr ["Share"] "top" (sVar 0)) (sOp2 (fMk gMulU) (sVar 1) (sAttr ["Share"] "bottom" (sVar 0)))) (sCons (sAttr ["Share"] "bottom" (sVar 0)) sNil)) sNil)) sSkip)
  sDead))
def F_Share_Mul : Env → Rf := fnS [false, false] 0
  (sSeq (sIfS (sTru (sCB (fRd (gIsi ics)) (sCons (sVar 1) (sCons (sLit (.glo "Share")) sNil))))
  (sRet (sMakeK "Share" 2 0 [0, 1] [(.int 1)] [true, false, false] F_Share_Init (sCons (sOp2 (fMk gMulU) (sAttr ["Share"] "top" (sVar 0)) (sAttr ["Share"] "top" (sVar 1))) (sCons (sOp2 (fMk gMulU) (sAttr ["Share"] "bottom" (sVar 0)) (sAttr ["Share"] "bottom" (sVar 1))) sNil)) sNil)) sSkip)
  (sSeq (sIfS (sTru (sCall [false] F_IsInteger (sCons (sVar 1) sNil)))
  (sRet (sMakeK "Share" 2 0 [0, 1] [(.int 1)] [true, false, false] F_Share_Init (sCons (sOp2 (fMk gMulU) (sAttr ["Share"] "top" (sVar 0)) (sVar 1)) (sCons (sAttr ["Share"] "bottom" (sVar 0)) sNil)) sNil)) sSkip)
  sDead))
def F_Share_Radd : Env → Rf := fnS [false, false] 0
  (sRet (sMulOwn "Share" [false, false] F_Share_Add (sVar 0) (sVar 1)))
def F_Share_Rmul : Env → Rf := fnS [false, false] 0
  (sRet (sMulOwn "Share" [false, false] F_Share_Mul (sVar 0) (sVar 1)))
def F_Share_Neg : Env → Rf := fnS [false] 0
  (sRet (sMakeK "Share" 2 0 [0, 1] [(.int 1)] [true, false, false] F_Share_Init (sCons (sOp1 (fRd gNeg) (sAttr ["Share"] "top" (sVar 0))) (sCons (sAttr ["Share"] "bottom" (sVar 0)) sNil)) sNil))
def F_Share_Rsub : Env → Rf := fnS [false, false] 0
  (sRet (sMulOwn "Share" [false, false] F_Share_Add (sOp1 (fNegOwn "Share" [false] F_Share_Neg) (sVar 0)) (sVar 1)))
def F_Share_Sub : Env → Rf := fnS [false, false] 0
  (sSeq (sIfS (sTru (sCB (fRd (gIsi ics)) (sCons (sVar 1) (sCons (sLit (.glo "Share")) sNil))))
  (sRet (sEqOwn "Share" [false, false] F_Share_Add (sVar 0) (sMakeK "Share" 2 0 [0, 1] [(.int 1)] [true, false, false] F_Share_Init (sCons (sOp1 (fRd gNeg) (sAttr ["Share"] "top" (sVar 1))) (sCons (sAttr ["Share"] "bottom" (sVar 1)) sNil)) sNil))) sSkip)
  (sSeq (sIfS (sTru (sCall [false] F_IsInteger (sCons (sVar 1) sNil)))
  (sRet (sMakeK "Share" 2 0 [0, 1] [(.int 1)] [true, false, false] F_Share_Init (sCons (sOp2 (fRd gMinus) (sAttr ["Share"] "top" (sVar 0)) (sOp2 (fMk gMulU) (sVar 1) (sAttr ["Share"] "bottom" (sVar 0)))) (sCons (sAttr ["Share"] "bottom" (sVar 0)) sNil)) sNil)) sSkip)
  sDead))
def F_LSums : Env → Rf := fnS [false, false, false, false] 3
  (sSeq (sAsg (sCB fTup (sCons (sOp2 (fMk gAdd) (sOp2 (fMk gMulU) (sOp2 fIx (sVar 2) (sLit (.int 0))) (sOp2 fIx (sVar 3) (sLit (.int 1)))) (sOp2 (fMk gMulU) (sOp2 fIx (sVar 3) (sLit (.int 0))) (sOp2 fIx (sVar 2) (sLit (.int 1))))) (sCons (sOp2 (fMk gMulU) (sOp2 fIx (sVar 2) (sLit (.int 1))) (sOp2 fIx (sVar 3) (sLit (.int 1)))) sNil))) (gN 4))
  (sSeq (sAsg (sCB fTup (sCons (sOp2 (fRd gMinus) (sOp2 (fMk gMulU) (sOp2 fIx (sVar 2) (sLit (.int 0))) (sOp2 fIx (sVar 3) (sLit (.int 1)))) (sOp2 (fMk gMulU) (sOp2 fIx (sVar 3) (sLit (.int 0))) (sOp2 fIx (sVar 2) (sLit (.int 1))))) (sCons (sOp2 (fMk gMulU) (sOp2 fIx (sVar 2) (sLit (.int 1))) (sOp2 fIx (sVar 3) (sLit (.int 1)))) sNil))) (gN 5))
  (sSeq (sIfS (sOrT (sNotT (sTru (sCall [false, false, false] F_LIsShare (sCons (sOp2 (fOwnA "Share" [false, false] F_Share_Add) (sVar 0) (sVar 1)) (sCons (sOp2 fIx (sVar 4) (sLit (.int 0))) (sCons (sOp2 fIx (sVar 4) (sLit (.int 1))) sNil)))))) (sNotT (sTru (sCall [false, false, false] F_LIsShare (sCons (sOp2 (fOwnA "Share" [false, false] F_Share_Sub) (sVar 0) (sVar 1)) (sCons (sOp2 fIx (sVar 5) (sLit (.int 0))) (sCons (sOp2 fIx (sVar 5) (sLit (.int 1))) sNil)))))))
  (sRet (sLit (.bl false))) sSkip)
  (sSeq (sIfS (sOrT (sNotT (sTru (sCall [false, false, false] F_LIsShare (sCons (sOp2 (fOwnR "Share" [false, false] [false, false] F_Share_Add F_Share_Radd) (sVar 1) (sVar 0)) (sCons (sOp2 fIx (sVar 4) (sLit (.int 0))) (sCons (sOp2 fIx (sVar 4) (sLit (.int 1))) sNil)))))) (sNotT (sTru (sCall [false, false, false] F_LIsShare (sCons (sOp2 (fOwnR "Share" [false, false] [false, false] F_Share_Sub F_Share_Rsub) (sVar 1) (sVar 0)) (sCons (sOp1 (fRd gNeg) (sOp2 fIx (sVar 5) (sLit (.int 0)))) (sCons (sOp2 fIx (sVar 5) (sLit (.int 1))) sNil)))))))
  (sRet (sLit (.bl false))) sSkip)
  (sSeq (sAsg (sCB fTup (sCons (sOp2 (fMk gMulU) (sOp2 fIx (sVar 2) (sLit (.int 0))) (sOp2 fIx (sVar 3) (sLit (.int 0)))) (sCons (sOp2 (fMk gMulU) (sOp2 fIx (sVar 2) (sLit (.int 1))) (sOp2 fIx (sVar 3) (sLit (.int 1)))) sNil))) (gN 6))
  (sSeq (sIfS (sNotT (sTru (sCall [false, false, false] F_LIsShare (sCons (sOp2 (fOwnA "Share" [false, false] F_Share_Mul) (sVar 0) (sVar 1)) (sCons (sOp2 fIx (sVar 6) (sLit (.int 0))) (sCons (sOp2 fIx (sVar 6) (sLit (.int 1))) sNil))))))
  (sRet (sLit (.bl false))) sSkip)
  (sRet (sCall [false, false, false] F_LIsShare (sCons (sOp2 (fOwnR "Share" [false, false] [false, false] F_Share_Mul F_Share_Rmul) (sVar 1) (sVar 0)) (sCons (sOp2 fIx (sVar 6) (sLit (.int 0))) (sCons (sOp2 fIx (sVar 6) (sLit (.int 1))) sNil)))))))))))
def F_Share_Below : Env → Rf := fnS [false, false] 0
  (sSeq (sIfS (sTru (sCB (fRd (gIsi ics)) (sCons (sVar 1) (sCons (sLit (.glo "Share")) sNil))))
  (sRet (sOp2 (fRd gLt) (sOp2 (fMk gMulU) (sAttr ["Share"] "top" (sVar 0)) (sAttr ["Share"] "bottom" (sVar 1))) (sOp2 (fMk gMulU) (sAttr ["Share"] "top" (sVar 1)) (sAttr ["Share"] "bottom" (sVar 0))))) sSkip)
  (sRet (sOp2 (fRd gLt) (sAttr ["Share"] "top" (sVar 0)) (sOp2 (fMk gMulU) (sVar 1) (sAttr ["Share"] "bottom" (sVar 0))))))
def F_Share_Eq : Env → Rf := fnS [false, false] 0
  (sRet (sAndV (sCB (fRd (gIsi ics)) (sCons (sVar 1) (sCons (sLit (.glo "Share")) sNil))) (sAndV (sOp2 (fRd gEq) (sAttr ["Share"] "top" (sVar 0)) (sAttr ["Share"] "top" (sVar 1))) (sOp2 (fRd gEq) (sAttr ["Share"] "bottom" (sVar 0)) (sAttr ["Share"] "bottom" (sVar 1))))))
def B_Law_1 : SE :=
  (sCall [true] F_LNumber (sCons (sVar 2) sNil))
def B_Law_2 : SS :=
  (sSeq (sAsg (sCall [true] F_LNumber (sCons (sVar 2) sNil)) (gN 6))
  (sDrop (sBM "list" fAppend (sVar 4) (sCons (sIf (sTest (sOp2 (fRd gNe) (sVar 6) (sLit (.int 0)))) (sVar 6) (sLit (.int 1))) sNil))))
def B_Law_3 : SS :=
  (sIfS (sTest (sOp2 (fEqAny "Share" [false, false] F_Share_Eq) (sVar 7) (sVar 13)))
  (sRet (sLit (.bl false))) sSkip)
def B_Law_4 : SS :=
  (sSeq (sAsg (sCall [false] F_LState (sCons (sCall [false, false] F_LCell (sCons (sVar 0) (sCons (sVar 1) sNil))) sNil)) (gN 2))
  (sSeq (sAsg (sLc 14 [5] (sRng1 (sCons (sLit (.int 3)) sNil)) (gN 5) sYes B_Law_1) (gN 3))
  (sSeq (sAsg (sCB fLst sNil) (gN 4))
  (sSeq (sFor (sRng1 (sCons (sLit (.int 2)) sNil)) (gN 5)
  B_Law_2)
  (sSeq (sAsg (sMakeK "Share" 2 0 [0, 1] [(.int 1)] [true, false, false] F_Share_Init (sCons (sOp2 fIx (sVar 3) (sLit (.int 0))) (sCons (sOp2 fIx (sVar 4) (sLit (.int 0))) sNil)) sNil) (gN 7))
  (sSeq (sAsg (sMakeK "Share" 0 2 [1, 2] [(.int 1)] [true, false, false] F_Share_Init sNil (sCons (sOp2 fIx (sVar 3) (sLit (.int 1))) (sCons (sOp2 fIx (sVar 4) (sLit (.int 1))) sNil))) (gN 8))
  (sSeq (sAsg (sCB fTup (sCons (sOp2 fIx (sVar 3) (sLit (.int 0))) (sCons (sOp2 fIx (sVar 4) (sLit (.int 0))) sNil))) (gN 9))
  (sSeq (sAsg (sCB fTup (sCons (sOp2 fIx (sVar 3) (sLit (.int 1))) (sCons (sOp2 fIx (sVar 4) (sLit (.int 1))) sNil))) (gN 10))
  (sSeq (sIfS (sOrT (sNotT (sTru (sCall [false, false, false] F_LIsShare (sCons (sVar 7) (sCons (sOp2 fIx (sVar 9) (sLit (.int 0))) (sCons (sOp2 fIx (sVar 9) (sLit (.int 1))) sNil)))))) (sNotT (sTru (sCall [false, false, false] F_LIsShare (sCons (sOp1 (fNegOwn "Share" [false] F_Share_Neg) (sVar 7)) (sCons (sOp1 (fRd gNeg) (sOp2 fIx (sVar 9) (sLit (.int 0)))) (sCons (sOp2 fIx (sVar 9) (sLit (.int 1))) sNil)))))))
  (sRet (sLit (.bl false))) sSkip)
  (sSeq (sIfS (sOrT (sNotT (sTru (sCall [false, false, false, false] F_LSums (sCons (sVar 7) (sCons (sVar 8) (sCons (sVar 9) (sCons (sVar 10) sNil))))))) (sNotT (sTru (sCall [false, false, false, false] F_LSums (sCons (sVar 7) (sCons (sOp2 fIx (sVar 3) (sLit (.int 2))) (sCons (sVar 9) (sCons (sCB fTup (sCons (sOp2 fIx (sVar 3) (sLit (.int 2))) (sCons (sLit (.int 1)) sNil))) sNil))))))))
  (sRet (sLit (.bl false))) sSkip)
  (sSeq (sIfS (sNotT (sTru (sCall [false, false, false] F_LIsShare (sCons (sMakeK "Share" 1 0 [0, 1] [(.int 1)] [true, false, false] F_Share_Init (sCons (sOp2 fIx (sVar 3) (sLit (.int 2))) sNil) sNil) (sCons (sOp2 fIx (sVar 3) (sLit (.int 2))) (sCons (sLit (.int 1)) sNil))))))
  (sRet (sLit (.bl false))) sSkip)
  (sSeq (sAsg (sIf (sTest (sOp2 (fRd gGt) (sOp2 (fMk gMulU) (sOp2 fIx (sVar 4) (sLit (.int 0))) (sOp2 fIx (sVar 4) (sLit (.int 1)))) (sLit (.int 0)))) (sLit (.int 1)) (sOp1 (fRd gNeg) (sLit (.int 1)))) (gN 11))
  (sSeq (sAsg (sOp2 (fMk gMulU) (sOp2 (fRd gMinus) (sOp2 (fMk gMulU) (sOp2 fIx (sVar 9) (sLit (.int 0))) (sOp2 fIx (sVar 10) (sLit (.int 1)))) (sOp2 (fMk gMulU) (sOp2 fIx (sVar 10) (sLit (.int 0))) (sOp2 fIx (sVar 9) (sLit (.int 1))))) (sVar 11)) (gN 12))
  (sSeq (sIfS (sOrT (sTest (sOp2 (fRd gNe) (sEqOwn "Share" [false, false] F_Share_Eq (sVar 7) (sVar 8)) (sOp2 (fRd gEq) (sVar 12) (sLit (.int 0))))) (sOrT (sTest (sOp2 (fRd gNe) (sMeth "Share" "below" [false, false] F_Share_Below (sVar 7) (sCons (sVar 8) sNil)) (sOp2 (fRd gLt) (sVar 12) (sLit (.int 0))))) (sTest (sOp2 (fRd gNe) (sMeth "Share" "below" [false, false] F_Share_Below (sVar 8) (sCons (sVar 7) sNil)) (sOp2 (fRd gGt) (sVar 12) (sLit (.int 0)))))))
  (sRet (sLit (.bl false))) sSkip)
  (sSeq (sAsg (sIf (sTest (sOp2 (fRd gGt) (sOp2 fIx (sVar 4) (sLit (.int 0))) (sLit (.int 0)))) (sLit (.int 1)) (sOp1 (fRd gNeg) (sLit (.int 1)))) (gN 11))
  (sSeq (sIfS (sTest (sOp2 (fRd gNe) (sMeth "Share" "below" [false, false] F_Share_Below (sVar 7) (sCons (sOp2 fIx (sVar 3) (sLit (.int 2))) sNil)) (sOp2 (fRd gLt) (sOp2 (fMk gMulU) (sOp2 (fRd gMinus) (sOp2 fIx (sVar 9) (sLit (.int 0))) (sOp2 (fMk gMulU) (sOp2 fIx (sVar 3) (sLit (.int 2))) (sOp2 fIx (sVar 9) (sLit (.int 1))))) (sVar 11)) (sLit (.int 0)))))
  (sRet (sLit (.bl false))) sSkip)
  (sFor (sSeqI (sCB fLst (sCons (sOp2 fIx (sVar 3) (sLit (.int 0))) (sCons (sLit .non) (sCons (sLit (.str "1")) (sCons (sCB fTup (sCons (sOp2 fIx (sVar 9) (sLit (.int 0))) (sCons (sOp2 fIx (sVar 9) (sLit (.int 1))) sNil))) (sCons (sLit (.bl true)) sNil))))))) (gN 13)
  B_Law_3)))))))))))))))))
def F_Law : Env → Rf := fnS [false] 13
  (sSeq (sFor (sRng1 (sCons (sOp2 (fMk gAdd) (sLit (.int 1)) (sCB (fRd gLen) (sCons (sSl (sVar 0) sNoPart (sPart (sLit (.int 3)))) sNil))) sNil)) (gN 1)
  B_Law_4)
  (sSeq (sIfS (sTest (sOp2 (fRd gNe) (sMethK "Share" "below" 0 1 [0, 1] [] [false, false] F_Share_Below (sVar 7) sNil (sCons (sVar 8) sNil)) (sMeth "Share" "below" [false, false] F_Share_Below (sVar 7) (sCons (sVar 8) sNil))))
  (sRet (sLit (.bl false))) sSkip)
  (sRet (sAndV (sEqOwn "Share" [false, false] F_Share_Eq (sMakeK "Share" 2 0 [0, 1] [(.int 1)] [true, false, false] F_Share_Init (sCons (sOp2 (fMk gMulU) (sOp2 fIx (sVar 3) (sLit (.int 0))) (sLit (.int 6))) (sCons (sOp2 (fMk gMulU) (sOp2 fIx (sVar 4) (sLit (.int 0))) (sLit (.int 6))) sNil)) sNil) (sVar 7)) (sOp2 (fRd gIsBl) (sMeth "Share" "below" [false, false] F_Share_Below (sVar 7) (sCons (sVar 7) sNil)) (sLit (.bl false)))))))

def stD (a b c : Int) : D := .lst [.int a, .int b, .int c]
def St (k : Nat) (d : D) : Prop := ∃ a b c, d = stD a b c ∧ 0 ≤ a ∧ 0 ≤ b ∧ b < 2147483563 ∧ 0 ≤ c ∧ c ≤ k
theorem take_big (a b c n : Int) (h : 0 < a) (hn : 0 < n) (hl : n.natAbs.log2 < 9000) : F_LTake [some (.val (.lst [.int a, .int b, .int c]) stM), some (.val (.int n) .fz)] = .ok (.int (a % n)) .fz [some (.val (.lst [.int (a / n), .int b, .int c]) stM), none] := by
  have h1 : decide (0 < a) = true := decide_eq_true h
  simp_arith! [F_LTake, h, h1, hn, hl]
def mixT (b c : Int) : Int := (b + 6151 * (c + 1) + 17) * 48271 % 2147483647
def mixU (b c : Int) : Int := mixT b c * (mixT b c / 1361 + 69621) % 2147483399
def mixV (b c n : Int) : Int := mixU b c * (mixU b c / 2741 + 40692) % 2147483563 / 11 % n
theorem mixT_b (b c : Int) : 0 ≤ mixT b c ∧ mixT b c < 2147483647 := by unfold mixT; omega
theorem mixU_b (b c : Int) : 0 ≤ mixU b c ∧ mixU b c < 2147483399 := by unfold mixU; omega
theorem take_small (b c n : Int) (hb : 0 ≤ b) (hb' : b < 2147483563) (hc : 0 ≤ c) (hc' : c ≤ 1000000000) (hn : 0 < n) : F_LTake [some (.val (.lst [.int 0, .int b, .int c]) stM), some (.val (.int n) .fz)] = .ok (.int (mixV b c n)) .fz [some (.val (.lst [.int 0, .int b, .int (c + 1)]) stM), none] := by
  have m1 := mixT_b b c
  have m2 := mixU_b b c
  have s1 : Small (6151 : Int) := small_of (by decide) (by decide)
  have s2 : Small (c + 1) := small_of (by omega) (by omega)
  have s3 : Small (b + 6151 * (c + 1) + 17) := small_of (by omega) (by omega)
  have s4 : Small (48271 : Int) := small_of (by decide) (by decide)
  have s5 : Small (mixT b c) := small_of (by omega) (by omega)
  have s6 : Small (mixT b c / 1361 + 69621) := small_of (by omega) (by omega)
  have s7 : Small (mixU b c) := small_of (by omega) (by omega)
  have s8 : Small (mixU b c / 2741 + 40692) := small_of (by omega) (by omega)
  have f1 : (b + 6151 * (c + 1) + 17) * 48271 % 2147483647 = mixT b c := rfl
  have f2 : mixT b c * (mixT b c / 1361 + 69621) % 2147483399 = mixU b c := rfl
  have f3 : mixU b c * (mixU b c / 2741 + 40692) % 2147483563 / 11 % n = mixV b c n := rfl
  have l1 : Nat.log2 (Int.natAbs 1361) < 9000 := by decide
  have l2 : Nat.log2 (Int.natAbs 2741) < 9000 := by decide
  have l3 : Nat.log2 (Int.natAbs 11) < 9000 := by decide
  simp_arith! [F_LTake, hn, s1, s2, s3, s4, s5, s6, s7, s8, f1, f2, f3, l1, l2, l3]
theorem take_ok {k : Nat} {d : D} {n : Int} (h : St k d) (hk : k ≤ 1000000000) (hn : 0 < n) (hl : n.natAbs.log2 < 9000) : ∃ j d', St (k + 1) d' ∧ 0 ≤ j ∧ j < n ∧ F_LTake [some (.val d stM), some (.val (.int n) .fz)] = .ok (.int j) .fz [some (.val d' stM), none] := by
  obtain ⟨a, b, c, rfl, ha, hb, hb', hc, hc'⟩ := h
  by_cases h0 : 0 < a
  · exact ⟨a % n, stD (a / n) b c, ⟨_, _, _, rfl, Int.ediv_nonneg ha (by omega), hb, hb', hc, by omega⟩, Int.emod_nonneg _ (by omega), Int.emod_lt_of_pos _ hn, take_big a b c n h0 hn hl⟩
  · have e : a = 0 := by omega
    subst e
    exact ⟨mixV b c n, stD 0 b (c + 1), ⟨_, _, _, rfl, by omega, hb, hb', by omega, by omega⟩, Int.emod_nonneg _ (by omega), Int.emod_lt_of_pos _ hn, take_small b c n hb hb' hc (by omega) hn⟩

theorem cell_ok (ns : List Int) (i : Nat) : ∃ x, F_LCell [vz (.scr (ns.map .int)), vz (.int i)] = .ok (.int x) .fz [none, none] := by
  by_cases h : i < ns.length
  · refine ⟨ns[i], ?_⟩
    have h1 : ((i : Int) < ((ns.map D.int).length : Int)) = True := eq_true (by rw [List.length_map]; omega)
    have h2 : (0 ≤ (i : Int)) = True := eq_true (by omega)
    have h3 : (ns.map D.int)[i]? = some (.int ns[i]) := by simp [h]
    have h4 : (i : Int).toNat = i := rfl
    simp_arith! [F_LCell, h1, h2, h3, h4]
  · refine ⟨0, ?_⟩
    have h1 : ((i : Int) < ((ns.map D.int).length : Int)) = False := eq_false (by rw [List.length_map]; omega)
    simp_arith! [F_LCell, h1]
theorem state_ok (x : Int) : ∃ d, St 0 d ∧ F_LState [vz (.int x)] = .ok d stM [none] := by
  have p : gPow [.int 10, .int 18] = some (.int 1000000000000000000) := by rfl
  by_cases h : 1000000000000000000 ≤ (if x < 0 then -x else x)
  · refine ⟨stD (if x < 0 then -x else x) 0 0, ⟨_, _, _, rfl, by omega, by omega, by omega, by omega, by omega⟩, ?_⟩
    simp_arith! [F_LState, p, h, lim, stD]
  · refine ⟨stD 0 (x % 2147483563) 0, ⟨_, _, _, rfl, by omega, by omega, by omega, by omega, by omega⟩, ?_⟩
    simp_arith! [F_LState, p, h, lim, stD]
def Asc (size : Int) (l : List Int) : Prop := l.Pairwise (· < ·) ∧ ∀ x ∈ l, 0 ≤ x ∧ x < size
def ansD (l : List (Int × Int)) : D := .tup (l.map fun p => .tup [.int p.1, .int p.2])
def Ans (size dear : Int) (l : List (Int × Int)) : Prop := Asc size (l.map (·.1)) ∧ ∀ p ∈ l, 0 ≤ p.2 ∧ p.2 < dear

theorem St.mono {k k' : Nat} {d : D} (h : St k d) (l : k ≤ k') : St k' d := by
  obtain ⟨a, b, c, rfl, h1, h2, h3, h4, h5⟩ := h
  exact ⟨a, b, c, rfl, h1, h2, h3, h4, by omega⟩
def words : List PySem.Str := ["a", "ab", "go", "gone", "stayandstayz"]
def word (g : Int) : PySem.Str := words.getD g.toNat "a"
abbrev strLt (x y : PySem.Str) : Prop := x.cps.toList < y.cps.toList
def AscS (l : List PySem.Str) : Prop := l.Pairwise strLt
abbrev AskL := List (PySem.Str × List (Int × Int))
def askD (l : AskL) : D := .tup (l.map fun q => .tup [.str q.1, ansD q.2])
structure Asks (size dear : Int) (l : AskL) : Prop where
  asc : AscS (l.map (·.1))
  nm : ∀ q ∈ l, q.1 ∈ words
  an : ∀ q ∈ l, Ans size dear q.2 ∧ q.2 ≠ [] ∧ q.2.length ≤ 3

def Rows (n : Nat) (T : Gr) : Prop := ∀ (i : Nat) (l : List Int), T[i]? = some l → Asc n l ∧ (i : Int) ∉ l
def Hears (A : List AskL) (x : Int) : Prop := ∃ al, A[x.toNat]? = some al ∧ al ≠ []
structure GoodP (n : Nat) (dear : Int) (T : Gr) (A : List AskL) : Prop where
  pos : 0 < n
  tl : T.length = n
  al : A.length = n
  rows : Rows n T
  asks : ∀ al ∈ A, Asks n dear al
  two : ∀ al ∈ A, al.length ≤ 2
  hear : ∀ i : Nat, i < n → ∃ x, Rch T i x ∧ Hears A x

theorem integer_ok {d : D} (h : tyOk ics d = true) : F_IsInteger [vz d] = .ok (.bl (isI d)) .fz [none] := by
  have a := isi_int h
  have b := isi_bool h
  simp_arith [F_IsInteger, a, b]
  cases d <;> rfl

def letters : PySem.Str := "abcdefghijklmnopqrstuvwxyz"
def NameOk (x : PySem.Str) : Prop := 1 ≤ x.length ∧ x.length ≤ 12 ∧ ∀ c ∈ x.cps.toList, c ∈ letters.cps.toList
structure AnsL (n : Int) (ps : List (Int × Int)) : Prop where
  ne : ps ≠ []
  bd : ∀ p ∈ ps, 0 ≤ p.1 ∧ p.1 < n ∧ 0 ≤ p.2
  asc : (ps.map (·.1)).Pairwise (· < ·)
structure AskOne (n : Int) (al : AskL) : Prop where
  len : al.length ≤ 160
  each : ∀ q ∈ al, NameOk q.1 ∧ AnsL n q.2
  asc : AscS (al.map (·.1))
def askAt (A : List AskL) (x : Int) : AskL := A.getD x.toNat []
def goals (al : AskL) : List Int := al.flatMap fun q => q.2.map (·.1)
def leadsOf (T : Gr) (A : List AskL) (x : Int) : List Int := row T x ++ goals (askAt A x)
def priD (ps : List (Int × Int)) : D := .dic (ps.map fun p => (.int p.1, .int p.2))
def prisD (al : AskL) : D := .dic (al.map fun q => (.str q.1, priD q.2))
noncomputable def cloD (T : Gr) : D := .lst ((rngI T.length).map fun s => .lst ((reachL T s).map .int))
def leaD (T : Gr) (A : List AskL) : D := .lst ((rngI T.length).map fun s => .lst ((leadsOf T A s).map .int))
def prsD (A : List AskL) : D := .lst (A.map prisD)
abbrev wN : List PySem.Str := ["turns", "asks", "start", "size", "_closures", "_leads", "_prices"]
noncomputable def wdF (T : Gr) (A : List AskL) (s : Int) : List (PySem.Str × D) := [("turns", .tup (rowsD T)), ("asks", .tup (A.map askD)), ("start", .int s), ("size", .int T.length), ("_closures", cloD T), ("_leads", leaD T A), ("_prices", prsD A)]
structure WOk (T : Gr) (A : List AskL) : Prop where
  n1 : 1 ≤ T.length
  n4 : T.length ≤ 400
  rows : Rows T.length T
  al : A.length = T.length
  ask : ∀ al ∈ A, AskOne T.length al
theorem WOk.wf {T : Gr} {A : List AskL} (h : WOk T A) : Wfg T := fun l hl x hx => by
  obtain ⟨j, hj⟩ := List.getElem?_of_mem hl
  exact (h.rows j l hj).1.2 x hx
def HearAll (T : Gr) (A : List AskL) : Prop := ∀ i : Nat, i < T.length → ∃ x, Rch T i x ∧ Hears A x
theorem word_nm : ∀ x ∈ words, NameOk x := by
  have : ∀ x ∈ words, decide (1 ≤ x.length ∧ x.length ≤ 12 ∧ ∀ c ∈ x.cps.toList, c ∈ letters.cps.toList) = true := by decide +kernel
  intro x hx
  show 1 ≤ x.length ∧ x.length ≤ 12 ∧ ∀ c ∈ x.cps.toList, c ∈ letters.cps.toList
  exact of_decide_eq_true (this x hx)
theorem Asks.one {n : Nat} {dear : Int} {al : AskL} (h : Asks n dear al) (h2 : al.length ≤ 2) : AskOne n al :=
  ⟨by omega, fun q hq => ⟨word_nm _ (h.nm q hq), (h.an q hq).2.1, fun p hp => ⟨((h.an q hq).1.1.2 p.1 (List.mem_map_of_mem hp)).1, ((h.an q hq).1.1.2 p.1 (List.mem_map_of_mem hp)).2, ((h.an q hq).1.2 p hp).1⟩, (h.an q hq).1.1.1⟩, h.asc⟩
theorem GoodP.ok {n : Nat} {dear : Int} {T : Gr} {A : List AskL} (h : GoodP n dear T A) (hn : n ≤ 400) : WOk T A := by
  have tl := h.tl
  have pos := h.pos
  subst tl
  exact ⟨pos, hn, h.rows, h.al, fun al hal => (h.asks al hal).one (h.two al hal)⟩
theorem GoodP.all {n : Nat} {dear : Int} {T : Gr} {A : List AskL} (h : GoodP n dear T A) : HearAll T A := fun i hi => h.hear i (by have := h.tl; omega)
theorem wd_turns {T : Gr} {A : List AskL} {s : Int} : fieldIx "turns" (wdF T A s) = some (0, .tup (rowsD T)) := fieldIx_at (show wN.idxOf ("turns" : PySem.Str) = 0 by decide +kernel) rfl
theorem wd_asks {T : Gr} {A : List AskL} {s : Int} : fieldIx "asks" (wdF T A s) = some (1, .tup (A.map askD)) := fieldIx_at (show wN.idxOf ("asks" : PySem.Str) = 1 by decide +kernel) rfl
theorem wd_start {T : Gr} {A : List AskL} {s : Int} : fieldIx "start" (wdF T A s) = some (2, .int s) := fieldIx_at (show wN.idxOf ("start" : PySem.Str) = 2 by decide +kernel) rfl
theorem wd_size {T : Gr} {A : List AskL} {s : Int} : fieldIx "size" (wdF T A s) = some (3, .int T.length) := fieldIx_at (show wN.idxOf ("size" : PySem.Str) = 3 by decide +kernel) rfl
theorem wd_clo {T : Gr} {A : List AskL} {s : Int} : fieldIx "_closures" (wdF T A s) = some (4, cloD T) := fieldIx_at (show wN.idxOf ("_closures" : PySem.Str) = 4 by decide +kernel) rfl
theorem wd_lea {T : Gr} {A : List AskL} {s : Int} : fieldIx "_leads" (wdF T A s) = some (5, leaD T A) := fieldIx_at (show wN.idxOf ("_leads" : PySem.Str) = 5 by decide +kernel) rfl
theorem wd_prs {T : Gr} {A : List AskL} {s : Int} : fieldIx "_prices" (wdF T A s) = some (6, prsD A) := fieldIx_at (show wN.idxOf ("_prices" : PySem.Str) = 6 by decide +kernel) rfl
theorem wc_in2 : (("World" : PySem.Str) ∈ (["Menus", "World"] : List PySem.Str)) = True := eq_true (by simp)
theorem mc_in : (("Menus" : PySem.Str) ∈ (["Menus"] : List PySem.Str)) = True := eq_true (by simp)
theorem mc_in2 : (("Menus" : PySem.Str) ∈ (["Menus", "World"] : List PySem.Str)) = True := eq_true (by simp)
theorem wc_in : (("World" : PySem.Str) ∈ (["World"] : List PySem.Str)) = True := eq_true (by simp)
theorem name_strOk {x : PySem.Str} (h : NameOk x) : PyData.strOk x = true := by
  unfold PyData.strOk
  rw [← Array.all_toList, List.all_eq_true]
  intro c hc
  have z : ∀ c ∈ letters.cps.toList, decide (c < 0x110000) = true := by decide +kernel
  exact z c (h.2.2 c hc)
theorem WOk.str {T : Gr} {A : List AskL} (h : WOk T A) : ∀ al ∈ A, ∀ q ∈ al, PyData.strOk q.1 = true := fun al hal q hq => name_strOk ((h.ask al hal).each q hq).1
theorem wd_none {T : Gr} {A : List AskL} {s : Int} {f : PySem.Str} (h : f ∉ wN) : fieldIx f (wdF T A s) = none := by
  have gen : ∀ {fs : List (PySem.Str × D)}, f ∉ fs.map Prod.fst → fieldIx f fs = none := by
    intro fs
    induction fs with
    | nil => intro _; rfl
    | cons q fs ih =>
      intro h
      rw [List.map_cons, List.mem_cons, not_or] at h
      show (if f = q.1 then _ else _) = _
      rw [if_neg h.1, ih h.2]; rfl
  exact gen h
theorem wn_check {T : Gr} {A : List AskL} {s : Int} : fieldIx "_check_standing" (wdF T A s) = none := wd_none (by decide +kernel)
theorem wn_pof {T : Gr} {A : List AskL} {s : Int} : fieldIx "_prices_of" (wdF T A s) = none := wd_none (by decide +kernel)
theorem wn_changed {T : Gr} {A : List AskL} {s : Int} : fieldIx "_changed" (wdF T A s) = none := wd_none (by decide +kernel)
theorem wn_answered {T : Gr} {A : List AskL} {s : Int} : fieldIx "_answered" (wdF T A s) = none := wd_none (by decide +kernel)
theorem wn_names {T : Gr} {A : List AskL} {s : Int} : fieldIx "names" (wdF T A s) = none := wd_none (by decide +kernel)
theorem wn_byTurns {T : Gr} {A : List AskL} {s : Int} : fieldIx "by_turns" (wdF T A s) = none := wd_none (by decide +kernel)
theorem wn_asked {T : Gr} {A : List AskL} {s : Int} : fieldIx "asked" (wdF T A s) = none := wd_none (by decide +kernel)
theorem wn_answers {T : Gr} {A : List AskL} {s : Int} : fieldIx "answers" (wdF T A s) = none := wd_none (by decide +kernel)
theorem wn_price {T : Gr} {A : List AskL} {s : Int} : fieldIx "price" (wdF T A s) = none := wd_none (by decide +kernel)
theorem wn_reach {T : Gr} {A : List AskL} {s : Int} : fieldIx "reach" (wdF T A s) = none := wd_none (by decide +kernel)
theorem wn_withStart {T : Gr} {A : List AskL} {s : Int} : fieldIx "with_start" (wdF T A s) = none := wd_none (by decide +kernel)
theorem wn_withPrice {T : Gr} {A : List AskL} {s : Int} : fieldIx "with_price" (wdF T A s) = none := wd_none (by decide +kernel)
theorem wn_withoutAnswer {T : Gr} {A : List AskL} {s : Int} : fieldIx "without_answer" (wdF T A s) = none := wd_none (by decide +kernel)
theorem wn_withoutAsk {T : Gr} {A : List AskL} {s : Int} : fieldIx "without_ask" (wdF T A s) = none := wd_none (by decide +kernel)
theorem wn_scaled {T : Gr} {A : List AskL} {s : Int} : fieldIx "scaled" (wdF T A s) = none := wd_none (by decide +kernel)
theorem wn_renamed {T : Gr} {A : List AskL} {s : Int} : fieldIx "renamed" (wdF T A s) = none := wd_none (by decide +kernel)
local macro_rules | `(tactic| simp! [$ts,*]) => `(tactic| simp_arith [sAttr, fAttr, wc_in, wc_in2, mc_in, mc_in2, wd_turns, wd_asks, wd_start, wd_size, wd_clo, wd_lea, wd_prs, wn_check, wn_pof, wn_changed, wn_answered, wn_names, wn_byTurns, wn_asked, wn_answers, wn_price, wn_reach, wn_withStart, wn_withPrice, wn_withoutAnswer, wn_withoutAsk, wn_scaled, wn_renamed, $ts,*])
namespace Fr2
def eu : Nat → Nat × Nat → Nat × Nat
  | 0, p => p
  | n + 1, (a, b) => eu n (if 0 < b then (b, a % b) else (a, b))
def fib : Nat → Nat
  | 0 => 0
  | 1 => 1
  | n + 2 => fib n + fib (n + 1)
theorem eu_zero : ∀ n a, eu n (a, 0) = (a, 0)
  | 0, a => rfl
  | n + 1, a => by
    rw [eu, if_neg (by omega), eu_zero n a]
theorem eu_big : ∀ n a b, b ≤ a → 0 < (eu n (a, b)).2 → fib (n + 1) ≤ b ∧ fib (n + 2) ≤ a
  | 0, a, b, h, p => by
    have p : 0 < b := p
    exact ⟨p, by show 0 + 1 ≤ a; omega⟩
  | n + 1, a, b, h, p => by
    by_cases c : 0 < b
    · rw [eu, if_pos c] at p
      have lt := Nat.mod_lt a c
      obtain ⟨h1, h2⟩ := eu_big n b (a % b) (by omega) p
      refine ⟨h2, ?_⟩
      have d := Nat.div_add_mod a b
      have q : 1 ≤ a / b := (Nat.one_le_div_iff c).mpr h
      have m : b * 1 ≤ b * (a / b) := Nat.mul_le_mul_left b q
      show fib (n + 1) + fib (n + 2) ≤ a
      omega
    · have : b = 0 := by omega
      subst this
      rw [eu_zero] at p
      exact absurd p (by simp)
theorem eu_gcd : ∀ n a b, Nat.gcd (eu n (a, b)).1 (eu n (a, b)).2 = Nat.gcd a b
  | 0, a, b => rfl
  | n + 1, a, b => by
    by_cases c : 0 < b
    · rw [eu, if_pos c, eu_gcd n b (a % b), Nat.gcd_comm b (a % b), Nat.gcd_comm a b, ← Nat.gcd_rec]
    · rw [eu, if_neg c, eu_gcd n a b]
theorem eu_end {n a b : Nat} (h : b < fib (n + 2)) : eu (n + 1) (a, b) = (Nat.gcd a b, 0) := by
  have z : (eu (n + 1) (a, b)).2 = 0 := by
    refine Nat.eq_zero_of_not_pos fun p => ?_
    by_cases c : 0 < b
    · rw [eu, if_pos c] at p
      have lt := Nat.mod_lt a c
      have := (eu_big n b (a % b) (by omega) p).2
      omega
    · have : b = 0 := by omega
      subst this
      rw [eu_zero] at p
      exact absurd p (by simp)
  have g := eu_gcd (n + 1) a b
  rw [z, Nat.gcd_zero_right] at g
  exact Prod.ext g z
def fibs : Nat → Nat × Nat
  | 0 => (0, 1)
  | n + 1 => let p := fibs n; (p.2, p.1 + p.2)
theorem fibs_eq : ∀ n, fibs n = (fib n, fib (n + 1))
  | 0 => rfl
  | n + 1 => by rw [fibs, fibs_eq n]; rfl
theorem fib401 : 10 ^ 81 < fib 401 := by
  have : (fibs 400).2 = fib 401 := by rw [fibs_eq]
  rw [← this]
  decide +kernel
structure Is (P Q t b : Int) : Prop where
  q0 : 0 < Q
  lo : Int.gcd P Q = 1
  eq : P * b = t * Q
def nP (t b : Int) : Int := if b < 0 then t / (-(Int.gcd t b : Nat)) else t / (Int.gcd t b : Nat)
def nQ (t b : Int) : Int := if b < 0 then b / (-(Int.gcd t b : Nat)) else b / (Int.gcd t b : Nat)
theorem mk_is {t b : Int} (h : b ≠ 0) : Is (nP t b) (nQ t b) t b ∧ (nP t b).natAbs ≤ t.natAbs ∧ (nQ t b).natAbs ≤ b.natAbs := by
  have g0 : 0 < Int.gcd t b := Int.gcd_pos_of_ne_zero_right t h
  obtain ⟨x, hx⟩ := Int.gcd_dvd_left t b
  obtain ⟨y, hy⟩ := Int.gcd_dvd_right t b
  generalize hg : Int.gcd t b = g at *
  have gz : (g : Int) ≠ 0 := by omega
  have cop : Int.gcd x y = 1 := by
    have := Int.gcd_mul_left (g : Int) x y
    rw [← hx, ← hy, hg] at this
    have h2 : g * 1 = g * Int.gcd x y := by rw [Nat.mul_one]; simpa using this
    exact (Nat.eq_of_mul_eq_mul_left g0 h2).symm
  have tx : t / (g : Int) = x := by rw [hx]; exact Int.mul_ediv_cancel_left x gz
  have by' : b / (g : Int) = y := by rw [hy]; exact Int.mul_ediv_cancel_left y gz
  have ax : x.natAbs ≤ t.natAbs := by
    rw [hx, Int.natAbs_mul]
    exact Nat.le_mul_of_pos_left _ (by omega)
  have ay : y.natAbs ≤ b.natAbs := by
    rw [hy, Int.natAbs_mul]
    exact Nat.le_mul_of_pos_left _ (by omega)
  unfold nP nQ
  rw [hg]
  by_cases c : b < 0
  · rw [if_pos c, if_pos c, Int.ediv_neg, Int.ediv_neg, tx, by']
    have yn : y < 0 := by
      refine Int.not_le.mp fun z => ?_
      have := Int.mul_nonneg (show (0 : Int) ≤ g by omega) z
      omega
    refine ⟨⟨by omega, by rw [Int.gcd_neg, Int.neg_gcd]; exact cop, ?_⟩, by rw [Int.natAbs_neg]; exact ax, by rw [Int.natAbs_neg]; exact ay⟩
    rw [hx, hy]
    simp only [Int.neg_mul, Int.mul_neg]
    congr 1
    ac_rfl
  · rw [if_neg c, if_neg c, tx, by']
    have yn : 0 < y := by
      refine Int.not_le.mp fun z => ?_
      have := Int.mul_nonneg (show (0 : Int) ≤ g by omega) (show 0 ≤ -y by omega)
      rw [Int.mul_neg] at this
      omega
    refine ⟨⟨yn, cop, ?_⟩, ax, ay⟩
    rw [hx, hy]
    ac_rfl
section
variable {P Q p q p' q' t b t' b' k : Int}
theorem Is.of (h : Is P Q p q) (hq : q ≠ 0) (e : p * b = t * q) : Is P Q t b := ⟨h.q0, h.lo, by
  refine Int.eq_of_mul_eq_mul_left hq ?_
  have h1 := h.eq
  calc q * (P * b) = (P * q) * b := by ac_rfl
    _ = p * Q * b := by rw [h1]
    _ = (p * b) * Q := by ac_rfl
    _ = t * q * Q := by rw [e]
    _ = q * (t * Q) := by ac_rfl⟩
theorem add_eq (h : p * b = t * q) (h' : p' * b' = t' * q') : (p * q' + p' * q) * (b * b') = (t * b' + t' * b) * (q * q') := by
  calc (p * q' + p' * q) * (b * b') = (p * b) * (q' * b') + (p' * b') * (q * b) := by rw [Int.add_mul]; congr 1 <;> ac_rfl
    _ = (t * q) * (q' * b') + (t' * q') * (q * b) := by rw [h, h']
    _ = (t * b' + t' * b) * (q * q') := by rw [Int.add_mul]; congr 1 <;> ac_rfl
theorem mul_eq (h : p * b = t * q) (h' : p' * b' = t' * q') : (p * p') * (b * b') = (t * t') * (q * q') := by
  calc (p * p') * (b * b') = (p * b) * (p' * b') := by ac_rfl
    _ = (t * q) * (t' * q') := by rw [h, h']
    _ = (t * t') * (q * q') := by ac_rfl
theorem apart_eq (h : p * b = t * q) (h' : p' * b' = t' * q') : (t * b' - t' * b) * (q * q') = (b * b') * (p * q' - p' * q) := by
  calc (t * b' - t' * b) * (q * q') = (t * q) * (q' * b') - (t' * q') * (q * b) := by rw [Int.sub_mul]; congr 1 <;> ac_rfl
    _ = (p * b) * (q' * b') - (p' * b') * (q * b) := by rw [h, h']
    _ = (b * b') * (p * q' - p' * q) := by rw [Int.mul_sub]; congr 1 <;> ac_rfl
theorem dvd_cop {a m n : Int} (h : Int.gcd a m = 1) (d : a ∣ m * n) : a ∣ n := by
  have d2 := Int.natAbs_dvd_natAbs.mpr d
  rw [Int.natAbs_mul] at d2
  have c : Nat.Coprime a.natAbs m.natAbs := h
  exact Int.natAbs_dvd_natAbs.mp (c.dvd_of_dvd_mul_left d2)
theorem same_of (h : Int.gcd p q = 1) (h' : Int.gcd p' q' = 1) (q0 : 0 < q) (q0' : 0 < q') (e : p * q' = p' * q) : p = p' ∧ q = q' := by
  have d1 : q ∣ q' := by
    have : q ∣ p * q' := ⟨p', by rw [e]; ac_rfl⟩
    have cop : Int.gcd q p = 1 := by rw [Int.gcd_comm]; exact h
    exact dvd_cop cop this
  have d2 : q' ∣ q := by
    have : q' ∣ p' * q := ⟨p, by rw [← e]; ac_rfl⟩
    have cop : Int.gcd q' p' = 1 := by rw [Int.gcd_comm]; exact h'
    exact dvd_cop cop this
  have eq : q = q' := Int.dvd_antisymm (by omega) (by omega) d1 d2
  refine ⟨?_, eq⟩
  rw [← eq] at e
  exact Int.eq_of_mul_eq_mul_right (by omega) e
end
end Fr2

def muC : Vs.Env → Nat
  | [_, _, some (.val (.int p) _), some (.val (.int r) _), _] => if r = 0 then 0 else (p.natAbs * r.natAbs).log2 + 1 + (if p.natAbs < r.natAbs then 1 else 0)
  | _ => 0
theorem log2_lt {a b : Nat} (hb : 0 < b) (h : 2 * a ≤ b) (ha : 0 < a) : a.log2 + 1 ≤ b.log2 := by
  have h1 : 2 ^ a.log2 ≤ a := Nat.log2_self_le (by omega)
  have : 2 ^ (a.log2 + 1) ≤ b := by rw [Nat.pow_succ]; omega
  exact (Nat.le_log2 (by omega)).mpr this
theorem mod_half {p r : Nat} (hr : 0 < r) (h : r ≤ p) : 2 * (p % r) ≤ p := by
  have h1 := Nat.mod_lt p hr
  have h2 : p % r + r ≤ p := by
    have := Nat.div_add_mod p r
    have h3 : 1 ≤ p / r := (Nat.one_le_div_iff hr).mpr h
    have h4 : r * 1 ≤ r * (p / r) := Nat.mul_le_mul_left r h3
    omega
  omega
theorem muC_lt {p r : Nat} (hr : 0 < r) : (if (p % r) = 0 then 0 else (r * (p % r)).log2 + 1 + (if r < p % r then 1 else 0)) < (p * r).log2 + 1 + (if p < r then 1 else 0) := by
  by_cases z : p % r = 0
  · rw [if_pos z]; omega
  · rw [if_neg z, if_neg (by have := Nat.mod_lt p hr; omega)]
    by_cases c : p < r
    · rw [if_pos c, Nat.mod_eq_of_lt c, Nat.mul_comm r p]; omega
    · rw [if_neg c]
      have h := mod_half hr (by omega : r ≤ p)
      have pos : 0 < r * (p % r) := Nat.mul_pos hr (by omega)
      have le : 2 * (r * (p % r)) ≤ p * r := by
        rw [Nat.mul_comm p r, Nat.mul_left_comm]
        exact Nat.mul_le_mul_left r h
      have := log2_lt (by omega) le pos
      omega
theorem int_abs (i : Int) : (if i < 0 then -i else i) = (i.natAbs : Int) := by omega
theorem commonPart_ok {a b : Int} (h : (a.natAbs * b.natAbs).log2 < 900000) : F_CommonPart [vz (.int a), vz (.int b)] = .ok (.int (Int.gcd a b : Nat)) .fz [none, none] := by
  unfold F_CommonPart
  refine q_fn (P := fun r => r = _) rfl ?_
  refine q_seq ?_
  apply q_ev (y := .nx [vz (.int a), vz (.int b), vz (.int (a.natAbs : Nat)), none, none])
  · simp! [int_abs]
  refine s_nx (q_seq ?_)
  apply q_ev (y := .nx [vz (.int a), vz (.int b), vz (.int (a.natAbs : Nat)), vz (.int (b.natAbs : Nat)), none])
  · simp! [int_abs]
  refine s_nx (q_seq (q_while (fun e => ∃ (p r : Nat) (x4 : Option Slt), e = [vz (.int a), vz (.int b), vz (.int (p : Nat)), vz (.int (r : Nat)), x4] ∧ Nat.gcd p r = Int.gcd a b) muC _ ⟨_, _, _, rfl, rfl⟩ ?_ ?_))
  · show (if ((b.natAbs : Nat) : Int) = 0 then 0 else ((((a.natAbs : Nat) : Int).natAbs * ((b.natAbs : Nat) : Int).natAbs).log2 + 1 + (if ((a.natAbs : Nat) : Int).natAbs < ((b.natAbs : Nat) : Int).natAbs then 1 else 0))) < 1000000
    simp only [Int.natAbs_natCast]
    split <;> (try split) <;> omega
  · rintro e ⟨p, r, x4, rfl, hg⟩
    by_cases c : 0 < r
    · refine ⟨true, _, by simp! [B_CommonPart_1, gGt]; rw [decide_eq_true (by omega)], fun _ => ?_, (fun z => nomatch z)⟩
      unfold B_CommonPart_2
      have hp : (0 : Int) < (r : Int) := by omega
      apply q_ev (y := .nx [vz (.int a), vz (.int b), vz (.int (r : Nat)), vz (.int ((p % r : Nat) : Int)), vz (.int ((p % r : Nat) : Int))])
      · simp! [hp]
        rfl
      refine b_nx ⟨⟨r, p % r, _, rfl, by rw [Nat.gcd_comm r, ← Nat.gcd_rec, Nat.gcd_comm, hg]⟩, ?_⟩
      show (if ((p % r : Nat) : Int) = 0 then 0 else ((((r : Nat) : Int).natAbs * ((p % r : Nat) : Int).natAbs).log2 + 1 + (if ((r : Nat) : Int).natAbs < ((p % r : Nat) : Int).natAbs then 1 else 0))) < (if ((r : Nat) : Int) = 0 then 0 else ((((p : Nat) : Int).natAbs * ((r : Nat) : Int).natAbs).log2 + 1 + (if ((p : Nat) : Int).natAbs < ((r : Nat) : Int).natAbs then 1 else 0)))
      have := muC_lt (p := p) c
      simp only [Int.natAbs_natCast]
      rw [if_neg (show ¬ ((r : Nat) : Int) = 0 by omega)]
      simpa only [Int.natCast_eq_zero] using this
    · obtain rfl : r = 0 := by omega
      refine ⟨false, _, by simp! [B_CommonPart_1, gGt]; rfl, (fun z => nomatch z), fun _ => s_nx ?_⟩
      rw [Nat.gcd_zero_right] at hg
      subst hg
      rfl

theorem log_mul {a b : Nat} {n m : Nat} (ha : a.log2 < n) (hb : b.log2 < m) : (a * b).log2 < n + m := by
  by_cases z : a * b = 0
  · rw [z]; have : Nat.log2 0 = 0 := by decide
    omega
  · have a0 : a ≠ 0 := fun e => z (by rw [e, Nat.zero_mul])
    have b0 : b ≠ 0 := fun e => z (by rw [e, Nat.mul_zero])
    rw [Nat.log2_lt z, Nat.pow_add]
    exact Nat.mul_lt_mul'' ((Nat.log2_lt a0).mp ha) ((Nat.log2_lt b0).mp hb)
def shD (p q : Int) : D := .ins "Share" [("top", .int p), ("bottom", .int q)]
abbrev selfS : Option Slt := some (.val (.ins "Share" []) Vs.stM)
theorem int_yes (i : Int) : F_IsInteger [vz (.int i)] = .ok (.bl true) .fz [none] := integer_ok (d := .int i) rfl
theorem sh_top {p q : D} : fieldIx "top" [(("top" : PySem.Str), p), ("bottom", q)] = some (0, p) := fieldIx_at (show (["top", "bottom"] : List PySem.Str).idxOf ("top" : PySem.Str) = 0 by decide +kernel) rfl
theorem sh_bot {p q : D} : fieldIx "bottom" [(("top" : PySem.Str), p), ("bottom", q)] = some (1, q) := fieldIx_at (show (["top", "bottom"] : List PySem.Str).idxOf ("bottom" : PySem.Str) = 1 by decide +kernel) rfl
theorem s_in1 : (("Share" : PySem.Str) ∈ (["Share"] : List PySem.Str)) = True := eq_true (by simp)
theorem isi_share_no {d : D} (h : (tyS d).isSome = true) : gIsi ics [d, .glo "Share"] = some (.bl false) := by
  cases d with
  | ins c l => simp [tyS] at h
  | _ => first | rfl | (simp [tyS] at h)
theorem isi_share {l : List (PySem.Str × D)} : gIsi ics [.ins "Share" l, .glo "Share"] = some (.bl true) := by
  have h : ("Share" : PySem.Str) ∈ ics := by decide
  unfold gIsi dIsi
  dsimp only
  rw [if_pos h, if_pos rfl]
  rfl
theorem field_no {f : PySem.Str} {fs : List (PySem.Str × D)} (h : f ∉ fs.map Prod.fst) : fieldIx f fs = none := by
  induction fs with
  | nil => rfl
  | cons q fs ih =>
    rw [List.map_cons, List.mem_cons, not_or] at h
    show (if f = q.1 then _ else _) = _
    rw [if_neg h.1, ih h.2]; rfl
theorem sh_below {p q : D} : fieldIx "below" [(("top" : PySem.Str), p), ("bottom", q)] = none := field_no (show ("below" : PySem.Str) ∉ (["top", "bottom"] : List PySem.Str) by decide +kernel)

abbrev Bd (x : Int) : Prop := x.natAbs ≤ 10 ^ 200
theorem lg_bd {x : Int} (h : Bd x) : x.natAbs.log2 < 700 := by
  by_cases z : x.natAbs = 0
  · rw [z]; decide
  · have : (10 : Nat) ^ 200 < 2 ^ 700 := by decide +kernel
    exact (Nat.log2_lt z).mpr (Nat.lt_of_le_of_lt h this)
theorem muI {i j : Int} (hi : Bd i) (hj : Bd j) : gMulU [.int i, .int j] = some (.int (i * j), .fz) := by
  have a := lg_bd hi
  have b := lg_bd hj
  show (if i.natAbs.log2 + j.natAbs.log2 < 1000000 then some (D.int (i * j), M.fz) else none) = _
  rw [if_pos (by omega)]
theorem shareN_ok {t b : Int} (h0 : b ≠ 0) (hb : Bd b) (ht : Bd t) : F_Share_Init [selfS, vz (.int t), vz (.int b)] = .ok .non .fz [some (.val (shD (Fr2.nP t b) (Fr2.nQ t b)) Vs.stM), none, none] := by
  have e1 := int_yes t
  have e2 := int_yes b
  have lb := lg_bd hb
  have lt := lg_bd ht
  have e3 := commonPart_ok (a := t) (b := b) (Nat.lt_trans (log_mul lt lb) (by omega))
  have e4 : gEq [.int b, .int 0] = some (.bl false) := by rw [gEq_int, decide_eq_false h0]
  have g0 : 0 < Int.gcd t b := Int.gcd_pos_of_ne_zero_right t h0
  have gb : Int.gcd t b ≤ b.natAbs := Nat.le_of_dvd (by omega) (Int.gcd_dvd_natAbs_right t b)
  have d1 : ((Int.gcd t b : Nat) : Int) ∣ t := Int.gcd_dvd_left t b
  have d2 : ((Int.gcd t b : Nat) : Int) ∣ b := Int.gcd_dvd_right t b
  obtain ⟨c, hc, cl, c1, c2, cn⟩ : ∃ c : Int, c ≠ 0 ∧ c.natAbs.log2 < 9000 ∧ t.fdiv c = Fr2.nP t b ∧ b.fdiv c = Fr2.nQ t b ∧ c = if b < 0 then -((Int.gcd t b : Nat) : Int) else ((Int.gcd t b : Nat) : Int) := by
    have bg : Bd ((Int.gcd t b : Nat) : Int) := by
      show (((Int.gcd t b : Nat) : Int)).natAbs ≤ _
      rw [Int.natAbs_natCast]
      exact Nat.le_trans gb hb
    have lgc := lg_bd bg
    unfold Fr2.nP Fr2.nQ
    by_cases n : b < 0
    · refine ⟨-((Int.gcd t b : Nat) : Int), by omega, by rw [Int.natAbs_neg]; omega, ?_, ?_, by rw [if_pos n]⟩
      · rw [if_pos n]; exact Int.fdiv_eq_ediv_of_dvd (Int.neg_dvd.mpr d1)
      · rw [if_pos n]; exact Int.fdiv_eq_ediv_of_dvd (Int.neg_dvd.mpr d2)
    · refine ⟨((Int.gcd t b : Nat) : Int), by omega, by omega, ?_, ?_, by rw [if_neg n]⟩
      · rw [if_neg n]; exact Int.fdiv_eq_ediv_of_dvd d1
      · rw [if_neg n]; exact Int.fdiv_eq_ediv_of_dvd d2
  have v1 : gDivV [.int t, .int c] = some (.int (Fr2.nP t b)) := by
    show (if c ≠ 0 ∧ c.natAbs.log2 < 9000 then some (D.int (t.fdiv c)) else none) = _
    rw [if_pos ⟨hc, cl⟩, c1]
  have v2 : gDivV [.int b, .int c] = some (.int (Fr2.nQ t b)) := by
    show (if c ≠ 0 ∧ c.natAbs.log2 < 9000 then some (D.int (b.fdiv c)) else none) = _
    rw [if_pos ⟨hc, cl⟩, c2]
  generalize Fr2.nP t b = P at *
  generalize Fr2.nQ t b = Q at *
  generalize ((Int.gcd t b : Nat) : Int) = g at *
  unfold F_Share_Init
  refine q_fn (P := fun r => r = _) rfl ?_
  refine q_seq ?_
  apply q_ev (y := .nx [selfS, vz (.int t), vz (.int b), none])
  · simp! [e1]
  refine s_nx (q_seq ?_)
  apply q_ev (y := .nx [selfS, vz (.int t), vz (.int b), none])
  · simp! [e2, e4]
  refine s_nx (q_seq ?_)
  apply q_ev (y := .nx [selfS, vz (.int t), vz (.int b), vz (.int g)])
  · simp! [e3]
  refine s_nx (q_seq ?_)
  apply q_ev (y := .nx [selfS, vz (.int t), vz (.int b), vz (.int c)])
  · rw [cn]
    by_cases n : b < 0
    · rw [if_pos n]
      have e5 : decide (b < 0) = true := decide_eq_true n
      simp! [e5]
    · rw [if_neg n]
      have e5 : decide (b < 0) = false := decide_eq_false n
      simp! [e5]
  refine s_nx (q_seq ?_)
  apply q_ev (y := .nx [some (.val (.ins "Share" [("top", .int P)]) Vs.stM), vz (.int t), vz (.int b), vz (.int c)])
  · apply stF_new ([] : List PySem.Str)
    · simp! [v1]; exact rfl
    · rfl
    · rfl
    · rfl
    · rfl
    · decide +kernel
    · rfl
  refine s_nx ?_
  apply q_ev (y := .nx [some (.val (shD P Q) Vs.stM), vz (.int t), vz (.int b), vz (.int c)])
  · apply stF_new (["top"] : List PySem.Str)
    · simp! [v2]; exact rfl
    · rfl
    · rfl
    · rfl
    · rfl
    · decide +kernel
    · rfl
  rfl
section
variable {p q p' q' k : Int}
theorem add_sh (q0 : q * q' ≠ 0) (h1 : Bd p) (h2 : Bd q) (h3 : Bd p') (h4 : Bd q') (h5 : Bd (p * q' + p' * q)) (h6 : Bd (q * q')) :
    F_Share_Add [vz (shD p q), vz (shD p' q')] = .ok (shD (Fr2.nP (p * q' + p' * q) (q * q')) (Fr2.nQ (p * q' + p' * q) (q * q'))) Vs.stM [none, none] := by
  have i1 := isi_share (l := [("top", .int p'), ("bottom", .int q')])
  have m1 := muI h1 h4
  have m2 := muI h3 h2
  have m3 := muI h2 h4
  have sh := shareN_ok q0 h6 h5
  unfold F_Share_Add shD at *
  refine q_fn (P := fun r => r = _) rfl ?_
  generalize Fr2.nP (p * q' + p' * q) (q * q') = y1 at *
  generalize Fr2.nQ (p * q' + p' * q) (q * q') = y2 at *
  generalize p * q' = z1 at *
  generalize p' * q = z2 at *
  generalize q * q' = z3 at *
  refine q_seq ?_
  apply q_ev (y := .rt (.ins "Share" [("top", .int y1), ("bottom", .int y2)]) Vs.stM [vz (.ins "Share" [("top", .int p), ("bottom", .int q)]), vz (.ins "Share" [("top", .int p'), ("bottom", .int q')])])
  · simp! [i1, s_in1, sh_top, sh_bot, m1, m2, m3, sh]
    try rfl
  · exact s_rt rfl
theorem add_in (q0 : q ≠ 0) (h1 : Bd p) (h2 : Bd q) (h3 : Bd k) (h5 : Bd (p + k * q)) :
    F_Share_Add [vz (shD p q), vz (.int k)] = .ok (shD (Fr2.nP (p + k * q) q) (Fr2.nQ (p + k * q) q)) Vs.stM [none, none] := by
  have i1 := isi_share_no (d := .int k) rfl
  have iy := int_yes k
  have m2 := muI h3 h2
  have sh := shareN_ok q0 h2 h5
  unfold F_Share_Add shD at *
  refine q_fn (P := fun r => r = _) rfl ?_
  generalize Fr2.nP (p + k * q) q = y1 at *
  generalize Fr2.nQ (p + k * q) q = y2 at *
  generalize k * q = z2 at *
  refine q_seq ?_
  apply q_ev (y := .nx [vz (.ins "Share" [("top", .int p), ("bottom", .int q)]), vz (.int k)])
  · simp! [i1]
    try rfl
  refine s_nx (q_seq ?_)
  apply q_ev (y := .rt (.ins "Share" [("top", .int y1), ("bottom", .int y2)]) Vs.stM [vz (.ins "Share" [("top", .int p), ("bottom", .int q)]), vz (.int k)])
  · simp! [iy, s_in1, sh_top, sh_bot, m2, sh]
    try rfl
  · exact s_rt rfl
theorem mul_sh (q0 : q * q' ≠ 0) (h1 : Bd p) (h2 : Bd q) (h3 : Bd p') (h4 : Bd q') (h5 : Bd (p * p')) (h6 : Bd (q * q')) :
    F_Share_Mul [vz (shD p q), vz (shD p' q')] = .ok (shD (Fr2.nP (p * p') (q * q')) (Fr2.nQ (p * p') (q * q'))) Vs.stM [none, none] := by
  have i1 := isi_share (l := [("top", .int p'), ("bottom", .int q')])
  have m1 := muI h1 h3
  have m3 := muI h2 h4
  have sh := shareN_ok q0 h6 h5
  unfold F_Share_Mul shD at *
  refine q_fn (P := fun r => r = _) rfl ?_
  generalize Fr2.nP (p * p') (q * q') = y1 at *
  generalize Fr2.nQ (p * p') (q * q') = y2 at *
  generalize p * p' = z1 at *
  generalize q * q' = z3 at *
  refine q_seq ?_
  apply q_ev (y := .rt (.ins "Share" [("top", .int y1), ("bottom", .int y2)]) Vs.stM [vz (.ins "Share" [("top", .int p), ("bottom", .int q)]), vz (.ins "Share" [("top", .int p'), ("bottom", .int q')])])
  · simp! [i1, s_in1, sh_top, sh_bot, m1, m3, sh]
    try rfl
  · exact s_rt rfl
theorem mul_in (q0 : q ≠ 0) (h1 : Bd p) (h2 : Bd q) (h3 : Bd k) (h5 : Bd (p * k)) :
    F_Share_Mul [vz (shD p q), vz (.int k)] = .ok (shD (Fr2.nP (p * k) q) (Fr2.nQ (p * k) q)) Vs.stM [none, none] := by
  have i1 := isi_share_no (d := .int k) rfl
  have iy := int_yes k
  have m2 := muI h1 h3
  have sh := shareN_ok q0 h2 h5
  unfold F_Share_Mul shD at *
  refine q_fn (P := fun r => r = _) rfl ?_
  generalize Fr2.nP (p * k) q = y1 at *
  generalize Fr2.nQ (p * k) q = y2 at *
  generalize p * k = z2 at *
  refine q_seq ?_
  apply q_ev (y := .nx [vz (.ins "Share" [("top", .int p), ("bottom", .int q)]), vz (.int k)])
  · simp! [i1]
    try rfl
  refine s_nx (q_seq ?_)
  apply q_ev (y := .rt (.ins "Share" [("top", .int y1), ("bottom", .int y2)]) Vs.stM [vz (.ins "Share" [("top", .int p), ("bottom", .int q)]), vz (.int k)])
  · simp! [iy, s_in1, sh_top, sh_bot, m2, sh]
    try rfl
  · exact s_rt rfl
theorem neg_sh (q0 : q ≠ 0) (h1 : Bd p) (h2 : Bd q) :
    F_Share_Neg [vz (shD p q)] = .ok (shD (Fr2.nP (-p) q) (Fr2.nQ (-p) q)) Vs.stM [none] := by
  have sh := shareN_ok (t := -p) q0 h2 (by show (-p).natAbs ≤ _; rw [Int.natAbs_neg]; exact h1)
  unfold F_Share_Neg shD at *
  refine q_fn (P := fun r => r = _) rfl ?_
  generalize Fr2.nP (-p) q = y1 at *
  generalize Fr2.nQ (-p) q = y2 at *
  apply q_ev (y := .rt (.ins "Share" [("top", .int y1), ("bottom", .int y2)]) Vs.stM [vz (.ins "Share" [("top", .int p), ("bottom", .int q)])])
  · simp! [s_in1, sh_top, sh_bot, sh]
    try rfl
  · rfl
theorem lint_ok (x : Int) : F_LIsInt [vz (.int x)] = .ok (.bl true) .fz [none] := by
  unfold F_LIsInt
  refine q_fn (P := fun r => r = _) rfl ?_
  have e1 : gIsi ics [.int x, .ty "int"] = some (.bl true) := rfl
  have e2 : gIsi ics [.int x, .ty "bool"] = some (.bl false) := rfl
  apply q_ev (y := .rt (.bl true) .fz [vz (.int x)])
  · simp! [e1, e2]
    try rfl
  · rfl
end

namespace Fr2
theorem red {p q : Int} (h : Int.gcd p q = 1) (q0 : 0 < q) : nP p q = p ∧ nQ p q = q := by
  unfold nP nQ
  rw [if_neg (by omega), if_neg (by omega), h]
  exact ⟨Int.ediv_one p, Int.ediv_one q⟩
def stp (p : Nat × Nat) : Nat × Nat := if 0 < p.2 then (p.2, p.1 % p.2) else p
theorem eu_stp : ∀ n p, eu (n + 1) p = stp (eu n p)
  | 0, (a, b) => by
    show eu 0 (if 0 < b then (b, a % b) else (a, b)) = stp (a, b)
    unfold stp
    by_cases c : 0 < b
    · simp only [if_pos c]; rfl
    · simp only [if_neg c]; rfl
  | n + 1, (a, b) => by
    rw [eu, eu_stp n, eu]
end Fr2
section
variable {p q p' q' k t b : Int}
theorem bd_neg (h : Bd p) : Bd (-p) := by
  show (-p).natAbs ≤ _
  rw [Int.natAbs_neg]
  exact h
theorem di_sh : decide (("Share" : PySem.Str) = "Share") = true := decide_eq_true rfl
theorem sub_sh (lo : Int.gcd p' q' = 1) (q0' : 0 < q') (q0 : q * q' ≠ 0) (h1 : Bd p) (h2 : Bd q) (h3 : Bd p') (h4 : Bd q') (h5 : Bd (p * q' + -p' * q)) (h6 : Bd (q * q')) :
    F_Share_Sub [vz (shD p q), vz (shD p' q')] = .ok (shD (Fr2.nP (p * q' + -p' * q) (q * q')) (Fr2.nQ (p * q' + -p' * q) (q * q'))) Vs.stM [none, none] := by
  have i1 := isi_share (l := [("top", .int p'), ("bottom", .int q')])
  have sh := shareN_ok (t := -p') (b := q') (by omega) h4 (bd_neg h3)
  obtain ⟨r1, r2⟩ := Fr2.red (p := -p') (q := q') (by rw [Int.neg_gcd]; exact lo) q0'
  rw [r1, r2] at sh
  have ad := add_sh (p := p) (q := q) (p' := -p') (q' := q') q0 h1 h2 (bd_neg h3) h4 h5 h6
  have di := di_sh
  unfold F_Share_Sub shD at *
  refine q_fn (P := fun r => r = _) rfl ?_
  generalize Fr2.nP (p * q' + -p' * q) (q * q') = y1 at *
  generalize Fr2.nQ (p * q' + -p' * q) (q * q') = y2 at *
  generalize hn : -p' = n at *
  have ng : gNeg [.int p'] = some (.int n) := by rw [← hn]; rfl
  generalize F_Share_Add = FA at *
  refine q_seq ?_
  apply q_ev (y := .rt (.ins "Share" [("top", .int y1), ("bottom", .int y2)]) Vs.stM [vz (.ins "Share" [("top", .int p), ("bottom", .int q)]), vz (.ins "Share" [("top", .int p'), ("bottom", .int q')])])
  · simp! [i1, s_in1, sh_top, sh_bot, hn, sh, sEqOwn, fOwn, isIns, di, ad]
    try rfl
  · exact s_rt rfl
theorem sub_in (q0 : q ≠ 0) (h1 : Bd p) (h2 : Bd q) (h3 : Bd k) (h5 : Bd (p - k * q)) :
    F_Share_Sub [vz (shD p q), vz (.int k)] = .ok (shD (Fr2.nP (p - k * q) q) (Fr2.nQ (p - k * q) q)) Vs.stM [none, none] := by
  have i1 := isi_share_no (d := .int k) rfl
  have iy := int_yes k
  have m2 := muI h3 h2
  have sh := shareN_ok q0 h2 h5
  unfold F_Share_Sub shD at *
  refine q_fn (P := fun r => r = _) rfl ?_
  generalize Fr2.nP (p - k * q) q = y1 at *
  generalize Fr2.nQ (p - k * q) q = y2 at *
  generalize k * q = z2 at *
  generalize F_Share_Add = FA at *
  refine q_seq ?_
  apply q_ev (y := .nx [vz (.ins "Share" [("top", .int p), ("bottom", .int q)]), vz (.int k)])
  · simp! [i1]
    try rfl
  refine s_nx (q_seq ?_)
  apply q_ev (y := .rt (.ins "Share" [("top", .int y1), ("bottom", .int y2)]) Vs.stM [vz (.ins "Share" [("top", .int p), ("bottom", .int q)]), vz (.int k)])
  · simp! [iy, s_in1, sh_top, sh_bot, m2, sh]
    try rfl
  · exact s_rt rfl
theorem radd_in {P Q : Int} (ad : F_Share_Add [vz (shD p q), vz (.int k)] = .ok (shD P Q) Vs.stM [none, none]) : F_Share_Radd [vz (shD p q), vz (.int k)] = .ok (shD P Q) Vs.stM [none, none] := by
  have di := di_sh
  unfold F_Share_Radd shD at *
  refine q_fn (P := fun r => r = _) rfl ?_
  generalize F_Share_Add = FA at *
  apply q_ev (y := .rt (.ins "Share" [("top", .int P), ("bottom", .int Q)]) Vs.stM [vz (.ins "Share" [("top", .int p), ("bottom", .int q)]), vz (.int k)])
  · simp! [sMulOwn, fOwnI, isIns, isInt1, di, ad]
    try rfl
  · rfl
theorem rmul_in {P Q : Int} (ad : F_Share_Mul [vz (shD p q), vz (.int k)] = .ok (shD P Q) Vs.stM [none, none]) : F_Share_Rmul [vz (shD p q), vz (.int k)] = .ok (shD P Q) Vs.stM [none, none] := by
  have di := di_sh
  unfold F_Share_Rmul shD at *
  refine q_fn (P := fun r => r = _) rfl ?_
  generalize F_Share_Mul = FA at *
  apply q_ev (y := .rt (.ins "Share" [("top", .int P), ("bottom", .int Q)]) Vs.stM [vz (.ins "Share" [("top", .int p), ("bottom", .int q)]), vz (.int k)])
  · simp! [sMulOwn, fOwnI, isIns, isInt1, di, ad]
    try rfl
  · rfl
theorem rsub_in {P Q n : Int} (ng : F_Share_Neg [vz (shD p q)] = .ok (shD n q) Vs.stM [none]) (ad : F_Share_Add [vz (shD n q), vz (.int k)] = .ok (shD P Q) Vs.stM [none, none]) : F_Share_Rsub [vz (shD p q), vz (.int k)] = .ok (shD P Q) Vs.stM [none, none] := by
  have di := di_sh
  unfold F_Share_Rsub shD at *
  refine q_fn (P := fun r => r = _) rfl ?_
  generalize F_Share_Add = FA at *
  generalize F_Share_Neg = FN at *
  apply q_ev (y := .rt (.ins "Share" [("top", .int P), ("bottom", .int Q)]) Vs.stM [vz (.ins "Share" [("top", .int p), ("bottom", .int q)]), vz (.int k)])
  · simp! [sMulOwn, fOwnI, fNegOwn, only, isIns, isInt1, di, ng, ad]
    try rfl
  · rfl
theorem below_in (h2 : Bd q) (h3 : Bd k) : F_Share_Below [vz (shD p q), vz (.int k)] = .ok (.bl (decide (p < k * q))) .fz [none, none] := by
  have a := isi_share_no (d := .int k) rfl
  have mu := muI h3 h2
  unfold F_Share_Below shD
  refine q_fn (P := fun r => r = _) rfl ?_
  refine q_seq ?_
  apply q_ev (y := .nx [vz (.ins "Share" [("top", .int p), ("bottom", .int q)]), vz (.int k)])
  · simp! [a]
    try rfl
  refine s_nx ?_
  generalize k * q = z at *
  apply q_ev (y := .rt (.bl (decide (p < z))) .fz [vz (.ins "Share" [("top", .int p), ("bottom", .int q)]), vz (.int k)])
  · simp! [s_in1, sh_top, sh_bot, mu]
    try rfl
  · rfl
theorem below_sh (h1 : Bd p) (h2 : Bd q) (h3 : Bd p') (h4 : Bd q') : F_Share_Below [vz (shD p q), vz (shD p' q')] = .ok (.bl (decide (p * q' < p' * q))) .fz [none, none] := by
  have i1 := isi_share (l := [("top", .int p'), ("bottom", .int q')])
  have m1 := muI h1 h4
  have m2 := muI h3 h2
  unfold F_Share_Below shD
  refine q_fn (P := fun r => r = _) rfl ?_
  generalize p * q' = z1 at *
  generalize p' * q = z2 at *
  refine q_seq ?_
  apply q_ev (y := .rt (.bl (decide (z1 < z2))) .fz [vz (.ins "Share" [("top", .int p), ("bottom", .int q)]), vz (.ins "Share" [("top", .int p'), ("bottom", .int q')])])
  · simp! [i1, s_in1, sh_top, sh_bot, m1, m2]
    try rfl
  · exact s_rt rfl
theorem eq_sh : F_Share_Eq [vz (shD p q), vz (shD p' q')] = .ok (.bl (decide (p = p') && decide (q = q'))) .fz [none, none] := by
  have i1 := isi_share (l := [("top", .int p'), ("bottom", .int q')])
  have g1 : gEq [.int p, .int p'] = some (.bl (decide (p = p'))) := gEq_int
  have g2 : gEq [.int q, .int q'] = some (.bl (decide (q = q'))) := gEq_int
  unfold F_Share_Eq shD
  refine q_fn (P := fun r => r = _) rfl ?_
  generalize decide (p = p') = b1 at *
  generalize decide (q = q') = b2 at *
  apply q_ev (y := .rt (.bl (b1 && b2)) .fz [vz (.ins "Share" [("top", .int p), ("bottom", .int q)]), vz (.ins "Share" [("top", .int p'), ("bottom", .int q')])])
  · cases b1 <;>
    · simp! [i1, s_in1, sh_top, sh_bot, g1, g2]
      try rfl
  · rfl
theorem eq_no {z : D} (hz : (tyS z).isSome = true) : F_Share_Eq [vz (shD p q), vz z] = .ok (.bl false) .fz [none, none] := by
  have i1 := isi_share_no hz
  unfold F_Share_Eq shD
  refine q_fn (P := fun r => r = _) rfl ?_
  apply q_ev (y := .rt (.bl false) .fz [vz (.ins "Share" [("top", .int p), ("bottom", .int q)]), vz z])
  · simp! [i1]
    try rfl
  · rfl
theorem isShare_ok {P Q : Int} (h : Fr2.Is P Q t b) (h1 : Bd P) (h2 : Q.natAbs ≤ 10 ^ 81) (h3 : Bd t) (h4 : Bd b) : F_LIsShare [vz (shD P Q), vz (.int t), vz (.int b)] = .ok (.bl true) .fz [none, none, none] := by
  have bq : Bd Q := Nat.le_trans h2 (by decide +kernel)
  have m1 := muI h1 h4
  have m2 := muI h3 bq
  have q0 := h.q0
  have hh := h.eq
  have n1 : gNe [.int (P * b), .int (t * Q)] = some (.bl false) := by rw [gNe_int, hh]; simp
  have c1 : decide (Q < 1) = false := decide_eq_false (by omega)
  have i1 := isi_share (l := [("top", .int P), ("bottom", .int Q)])
  have li := lint_ok
  have lo := h.lo
  unfold F_LIsShare shD
  generalize hB : B_LIsShare_1 = B
  refine q_fn (P := fun r => r = _) rfl ?_
  refine q_seq ?_
  apply q_ev (y := .nx [vz (.ins "Share" [("top", .int P), ("bottom", .int Q)]), vz (.int t), vz (.int b), none, none, none, none])
  · simp! [i1, s_in1, sh_top, sh_bot, li]
    try rfl
  refine s_nx (q_seq ?_)
  apply q_ev (y := .nx [vz (.ins "Share" [("top", .int P), ("bottom", .int Q)]), vz (.int t), vz (.int b), none, none, none, none])
  · simp! [s_in1, sh_top, sh_bot, c1, m1, m2, n1]
    try rfl
  refine s_nx (q_seq ?_)
  apply q_ev (y := .nx [vz (.ins "Share" [("top", .int P), ("bottom", .int Q)]), vz (.int t), vz (.int b), vz (.int (P.natAbs : Int)), none, none, none])
  · have ab : gAbs [.int P] = some (.int (P.natAbs : Int)) := by rw [← int_abs]; rfl
    simp! [s_in1, sh_top, sh_bot, ab]
    try rfl
  refine s_nx (q_seq ?_)
  apply q_ev (y := .nx [vz (.ins "Share" [("top", .int P), ("bottom", .int Q)]), vz (.int t), vz (.int b), vz (.int (P.natAbs : Int)), vz (.int (Q.natAbs : Int)), none, none])
  · rw [show ((Q.natAbs : Nat) : Int) = Q by omega]
    simp! [s_in1, sh_top, sh_bot]
    try rfl
  refine s_nx (q_seq ?_)
  generalize hX : vz (D.ins "Share" [("top", .int P), ("bottom", .int Q)]) = X
  apply q_ev (y := forL (gN 5) B (rngL 0 400) [X, vz (.int t), vz (.int b), vz (.int (P.natAbs : Int)), vz (.int (Q.natAbs : Int)), none, none])
  · simp! []
    try rfl
  refine q_forP [3, 4, 5, 6] (fun i xs => ∃ x5 x6, xs = [vz (.int ((Fr2.eu i (P.natAbs, Q.natAbs)).1 : Nat)), vz (.int ((Fr2.eu i (P.natAbs, Q.natAbs)).2 : Nat)), x5, x6])
    _ [X, vz (.int t), vz (.int b), vz (.int (P.natAbs : Int)), vz (.int (Q.natAbs : Int)), none, none] _ [vz (.int (P.natAbs : Int)), vz (.int (Q.natAbs : Int)), none, none] rfl ⟨none, none, rfl⟩ ?_ ?_
  · rintro i d xs hd ⟨x5, x6, rfl⟩
    obtain ⟨hi, rfl⟩ := rngL_get hd
    refine ⟨_, rfl, ?_⟩
    simp only [puts_cons, puts_nil, List.set_cons_zero, List.set_cons_succ]
    have es := Fr2.eu_stp i (P.natAbs, Q.natAbs)
    generalize Fr2.eu i (P.natAbs, Q.natAbs) = st at *
    obtain ⟨x, y⟩ := st
    unfold Fr2.stp at es
    dsimp only at es ⊢
    rw [← hB]
    by_cases c : 0 < y
    · rw [if_pos c] at es
      have c1 : decide ((y : Int) > 0) = true := decide_eq_true (by omega)
      have md : gMod [.int (x : Nat), .int (y : Nat)] = some (.int ((x % y : Nat) : Int)) := by
        show (if 0 < (y : Int) then some (D.int ((x : Int) % (y : Int))) else none) = _
        rw [if_pos (by omega), Int.natCast_emod]
      refine q_ev (y := .nx [X, vz (.int t), vz (.int b), vz (.int (y : Nat)), vz (.int ((x % y : Nat) : Int)), vz (.int (0 + (i : Nat))), vz (.int ((x % y : Nat) : Int))]) ?_ (b_nx ⟨[vz (.int (y : Nat)), vz (.int ((x % y : Nat) : Int)), vz (.int (0 + (i : Nat))), vz (.int ((x % y : Nat) : Int))], rfl, _, _, by rw [es]⟩)
      unfold B_LIsShare_1
      generalize ((x % y : Nat) : Int) = z at *
      simp! [c1, md]
      try rfl
    · rw [if_neg c] at es
      have c1 : decide ((y : Int) > 0) = false := decide_eq_false (by omega)
      refine q_ev (y := .nx [X, vz (.int t), vz (.int b), vz (.int (x : Nat)), vz (.int (y : Nat)), vz (.int (0 + (i : Nat))), x6]) ?_ (b_nx ⟨[vz (.int (x : Nat)), vz (.int (y : Nat)), vz (.int (0 + (i : Nat))), x6], rfl, _, _, by rw [es]⟩)
      unfold B_LIsShare_1
      simp! [c1]
      try rfl
  · rintro xs ⟨x5, x6, rfl⟩
    rw [rngL_len]
    have en := Fr2.eu_end (n := 399) (a := P.natAbs) (b := Q.natAbs) (Nat.lt_of_le_of_lt h2 Fr2.fib401)
    have g1 : Nat.gcd P.natAbs Q.natAbs = 1 := lo
    rw [show (399 : Nat) + 1 = 400 from rfl, g1] at en
    rw [en]
    simp only [puts_cons, puts_nil, List.set_cons_zero, List.set_cons_succ]
    refine s_nx ?_
    have ge : gEq [.int ((1 : Nat) : Int), .int 1] = some (.bl true) := by rw [gEq_int]; rfl
    apply q_ev (y := .rt (.bl true) .fz [X, vz (.int t), vz (.int b), vz (.int ((1 : Nat) : Int)), vz (.int ((0 : Nat) : Int)), x5, x6])
    · simp! [ge]
      try rfl
    · rfl
end

section
variable {p q p' q' k t b t' b' : Int} {F F2 : Env → Rf} {R : D} {tl : List (Option Slt)}
theorem ownA_sh (e : F [vz (shD p q), vz (shD p' q')] = .ok R Vs.stM [none, none]) : sOp2 (fOwnA "Share" [false, false] F) (sVar 0) (sVar 1) (vz (shD p q) :: vz (shD p' q') :: tl) = .ok (.tmp R Vs.stM) (vz (shD p q) :: vz (shD p' q') :: tl) := by
  have di := di_sh
  unfold shD at *
  simp! [fOwnA, only, isIns, isInt1, di, e]
  try rfl
theorem ownA_in (e : F [vz (shD p q), vz (.int k)] = .ok R Vs.stM [none, none]) : sOp2 (fOwnA "Share" [false, false] F) (sVar 0) (sVar 1) (vz (shD p q) :: vz (.int k) :: tl) = .ok (.tmp R Vs.stM) (vz (shD p q) :: vz (.int k) :: tl) := by
  have di := di_sh
  unfold shD at *
  simp! [fOwnA, only, isIns, isInt1, di, e]
  try rfl
theorem ownR_sh (e : F [vz (shD p' q'), vz (shD p q)] = .ok R Vs.stM [none, none]) : sOp2 (fOwnR "Share" [false, false] [false, false] F F2) (sVar 1) (sVar 0) (vz (shD p q) :: vz (shD p' q') :: tl) = .ok (.tmp R Vs.stM) (vz (shD p q) :: vz (shD p' q') :: tl) := by
  have di := di_sh
  unfold shD at *
  simp! [fOwnR, only, isIns, isInt1, di, e]
  try rfl
theorem ownR_in (e : F2 [vz (shD p q), vz (.int k)] = .ok R Vs.stM [none, none]) : sOp2 (fOwnR "Share" [false, false] [false, false] F F2) (sVar 1) (sVar 0) (vz (shD p q) :: vz (.int k) :: tl) = .ok (.tmp R Vs.stM) (vz (shD p q) :: vz (.int k) :: tl) := by
  have di := di_sh
  unfold shD at *
  simp! [fOwnR, only, isIns, isInt1, di, e]
  try rfl
end
abbrev B40 (x : Int) : Prop := x.natAbs ≤ 10 ^ 40
abbrev B81 (x : Int) : Prop := x.natAbs ≤ 10 ^ 81
theorem B40.bd {x : Int} (h : B40 x) : Bd x := Nat.le_trans h (by decide +kernel)
theorem B81.bd {x : Int} (h : B81 x) : Bd x := Nat.le_trans h (by decide +kernel)
theorem b40_mul {x y : Int} (h : B40 x) (h' : B40 y) : (x * y).natAbs ≤ 10 ^ 80 := by
  rw [Int.natAbs_mul]
  exact Nat.le_trans (Nat.mul_le_mul h h') (by decide +kernel)
theorem b40_m81 {x y : Int} (h : B40 x) (h' : B40 y) : B81 (x * y) := Nat.le_trans (b40_mul h h') (by decide +kernel)
theorem b80_add {x y : Int} (h : x.natAbs ≤ 10 ^ 80) (h' : y.natAbs ≤ 10 ^ 80) : B81 (x + y) :=
  Nat.le_trans (Int.natAbs_add_le x y) (Nat.le_trans (Nat.add_le_add h h') (by decide +kernel))
theorem b80_sub {x y : Int} (h : x.natAbs ≤ 10 ^ 80) (h' : y.natAbs ≤ 10 ^ 80) : B81 (x - y) := by
  rw [Int.sub_eq_add_neg]
  exact b80_add h (by rw [Int.natAbs_neg]; exact h')
section
variable {z o : D} {t b t' b' P1 Q1 P2 Q2 P3 Q3 P4 Q4 P5 Q5 P6 Q6 : Int}
structure Rt (P Q t b : Int) : Prop where
  is : Fr2.Is P Q t b
  bp : B81 P
  bq : B81 Q
theorem Rt.ok {P Q t b : Int} (h : Rt P Q t b) (ht : Bd t) (hb : Bd b) : F_LIsShare [vz (shD P Q), vz (.int t), vz (.int b)] = .ok (.bl true) .fz [none, none, none] := isShare_ok h.is h.bp.bd h.bq ht hb
theorem lsums_ok (ht : B40 t) (hb : B40 b) (ht' : B40 t') (hb' : B40 b')
    (a1 : ∀ tl, sOp2 (fOwnA "Share" [false, false] F_Share_Add) (sVar 0) (sVar 1) (vz z :: vz o :: tl) = .ok (.tmp (shD P1 Q1) Vs.stM) (vz z :: vz o :: tl))
    (a2 : ∀ tl, sOp2 (fOwnA "Share" [false, false] F_Share_Sub) (sVar 0) (sVar 1) (vz z :: vz o :: tl) = .ok (.tmp (shD P2 Q2) Vs.stM) (vz z :: vz o :: tl))
    (a3 : ∀ tl, sOp2 (fOwnR "Share" [false, false] [false, false] F_Share_Add F_Share_Radd) (sVar 1) (sVar 0) (vz z :: vz o :: tl) = .ok (.tmp (shD P3 Q3) Vs.stM) (vz z :: vz o :: tl))
    (a4 : ∀ tl, sOp2 (fOwnR "Share" [false, false] [false, false] F_Share_Sub F_Share_Rsub) (sVar 1) (sVar 0) (vz z :: vz o :: tl) = .ok (.tmp (shD P4 Q4) Vs.stM) (vz z :: vz o :: tl))
    (a5 : ∀ tl, sOp2 (fOwnA "Share" [false, false] F_Share_Mul) (sVar 0) (sVar 1) (vz z :: vz o :: tl) = .ok (.tmp (shD P5 Q5) Vs.stM) (vz z :: vz o :: tl))
    (a6 : ∀ tl, sOp2 (fOwnR "Share" [false, false] [false, false] F_Share_Mul F_Share_Rmul) (sVar 1) (sVar 0) (vz z :: vz o :: tl) = .ok (.tmp (shD P6 Q6) Vs.stM) (vz z :: vz o :: tl))
    (h1 : Rt P1 Q1 (t * b' + t' * b) (b * b')) (h2 : Rt P2 Q2 (t * b' - t' * b) (b * b')) (h3 : Rt P3 Q3 (t * b' + t' * b) (b * b')) (h4 : Rt P4 Q4 (-(t * b' - t' * b)) (b * b')) (h5 : Rt P5 Q5 (t * t') (b * b')) (h6 : Rt P6 Q6 (t * t') (b * b')) :
    F_LSums [vz z, vz o, vz (.tup [.int t, .int b]), vz (.tup [.int t', .int b'])] = .ok (.bl true) .fz [none, none, none, none] := by
  have m1 := muI ht.bd hb'.bd
  have m2 := muI ht'.bd hb.bd
  have m3 := muI hb.bd hb'.bd
  have m4 := muI ht.bd ht'.bd
  have bb : Bd (b * b') := (b40_m81 hb hb').bd
  have bs : Bd (t * b' + t' * b) := (b80_add (b40_mul ht hb') (b40_mul ht' hb)).bd
  have bl : Bd (t * b' - t' * b) := (b80_sub (b40_mul ht hb') (b40_mul ht' hb)).bd
  have bp : Bd (t * t') := (b40_m81 ht ht').bd
  have k1 := h1.ok bs bb
  have k2 := h2.ok bl bb
  have k3 := h3.ok bs bb
  have k4 := h4.ok (bd_neg bl) bb
  have k5 := h5.ok bp bb
  have k6 := h6.ok bp bb
  have c2 : (2 ≤ lim) = True := eq_true (by decide)
  clear h1 h2 h3 h4 h5 h6 bb bs bl bp ht hb ht' hb'
  unfold F_LSums
  generalize sOp2 (fOwnA "Share" [false, false] F_Share_Add) (sVar 0) (sVar 1) = G1 at *
  generalize sOp2 (fOwnA "Share" [false, false] F_Share_Sub) (sVar 0) (sVar 1) = G2 at *
  generalize sOp2 (fOwnR "Share" [false, false] [false, false] F_Share_Add F_Share_Radd) (sVar 1) (sVar 0) = G3 at *
  generalize sOp2 (fOwnR "Share" [false, false] [false, false] F_Share_Sub F_Share_Rsub) (sVar 1) (sVar 0) = G4 at *
  generalize sOp2 (fOwnA "Share" [false, false] F_Share_Mul) (sVar 0) (sVar 1) = G5 at *
  generalize sOp2 (fOwnR "Share" [false, false] [false, false] F_Share_Mul F_Share_Rmul) (sVar 1) (sVar 0) = G6 at *
  generalize F_LIsShare = FI at *
  generalize shD P1 Q1 = s1 at *
  generalize shD P2 Q2 = s2 at *
  generalize shD P3 Q3 = s3 at *
  generalize shD P4 Q4 = s4 at *
  generalize shD P5 Q5 = s5 at *
  generalize shD P6 Q6 = s6 at *
  generalize t * b' = x1 at *
  generalize t' * b = x2 at *
  generalize b * b' = x3 at *
  generalize t * t' = x4 at *
  refine q_fn (P := fun r => r = Rf.ok (.bl true) .fz [none, none, none, none]) rfl ?_
  refine q_seq ?_
  apply q_ev (y := .nx [vz z, vz o, vz (.tup [.int t, .int b]), vz (.tup [.int t', .int b']), vz (.tup [.int (x1 + x2), .int x3]), none, none])
  · simp! [m1, m2, m3, c2]
    try rfl
  refine s_nx (q_seq ?_)
  apply q_ev (y := .nx [vz z, vz o, vz (.tup [.int t, .int b]), vz (.tup [.int t', .int b']), vz (.tup [.int (x1 + x2), .int x3]), vz (.tup [.int (x1 - x2), .int x3]), none])
  · simp! [m1, m2, m3, c2]
    try rfl
  refine s_nx (q_seq ?_)
  apply q_ev (y := .nx [vz z, vz o, vz (.tup [.int t, .int b]), vz (.tup [.int t', .int b']), vz (.tup [.int (x1 + x2), .int x3]), vz (.tup [.int (x1 - x2), .int x3]), none])
  · simp! [a1, a2, k1, k2]
    try rfl
  refine s_nx (q_seq ?_)
  apply q_ev (y := .nx [vz z, vz o, vz (.tup [.int t, .int b]), vz (.tup [.int t', .int b']), vz (.tup [.int (x1 + x2), .int x3]), vz (.tup [.int (x1 - x2), .int x3]), none])
  · simp! [a3, a4, k3, k4]
    try rfl
  refine s_nx (q_seq ?_)
  apply q_ev (y := .nx [vz z, vz o, vz (.tup [.int t, .int b]), vz (.tup [.int t', .int b']), vz (.tup [.int (x1 + x2), .int x3]), vz (.tup [.int (x1 - x2), .int x3]), vz (.tup [.int x4, .int x3])])
  · simp! [m3, m4, c2]
    try rfl
  refine s_nx (q_seq ?_)
  apply q_ev (y := .nx [vz z, vz o, vz (.tup [.int t, .int b]), vz (.tup [.int t', .int b']), vz (.tup [.int (x1 + x2), .int x3]), vz (.tup [.int (x1 - x2), .int x3]), vz (.tup [.int x4, .int x3])])
  · simp! [a5, k5]
    try rfl
  refine s_nx ?_
  apply q_ev (y := .rt (.bl true) .fz [vz z, vz o, vz (.tup [.int t, .int b]), vz (.tup [.int t', .int b']), vz (.tup [.int (x1 + x2), .int x3]), vz (.tup [.int (x1 - x2), .int x3]), vz (.tup [.int x4, .int x3])])
  · simp! [a6, k6]
    try rfl
  · rfl
end

section
variable {p q p' q' k t b t' b' : Int}
theorem rt_of {X Y tt bb : Int} (hY : Y ≠ 0) (hX : B81 X) (hYb : B81 Y) (e : X * bb = tt * Y) : Rt (Fr2.nP X Y) (Fr2.nQ X Y) tt bb := by
  obtain ⟨h, h1, h2⟩ := Fr2.mk_is (t := X) (b := Y) hY
  exact ⟨h.of hY e, Nat.le_trans h1 hX, Nat.le_trans h2 hYb⟩
structure Sh (p q t b : Int) : Prop where
  is : Fr2.Is p q t b
  bp : B40 p
  bq : B40 q
  bt : B40 t
  bb : B40 b
  b0 : b ≠ 0
theorem Sh.q0 (h : Sh p q t b) : q ≠ 0 := by have := h.is.q0; omega
theorem neg_red (h : Sh p q t b) : F_Share_Neg [vz (shD p q)] = .ok (shD (-p) q) Vs.stM [none] := by
  have e := neg_sh (p := p) h.q0 h.bp.bd h.bq.bd
  obtain ⟨r1, r2⟩ := Fr2.red (p := -p) (q := q) (by rw [Int.neg_gcd]; exact h.is.lo) h.is.q0
  rw [r1, r2] at e
  exact e
theorem neg_is (h : Sh p q t b) : Rt (-p) q (-t) b := ⟨⟨h.is.q0, by rw [Int.neg_gcd]; exact h.is.lo, by rw [Int.neg_mul, Int.neg_mul, h.is.eq]⟩, by
  show (-p).natAbs ≤ _
  rw [Int.natAbs_neg]
  exact Nat.le_trans h.bp (by decide +kernel), Nat.le_trans h.bq (by decide +kernel)⟩
theorem b40_neg {x : Int} (h : B40 x) : B40 (-x) := by
  show (-x).natAbs ≤ _
  rw [Int.natAbs_neg]
  exact h
theorem lsumsA (h : Sh p q t b) (h' : Sh p' q' t' b') : F_LSums [vz (shD p q), vz (shD p' q'), vz (.tup [.int t, .int b]), vz (.tup [.int t', .int b'])] = .ok (.bl true) .fz [none, none, none, none] := by
  have z : q * q' ≠ 0 := Int.mul_ne_zero h.q0 h'.q0
  have z' : q' * q ≠ 0 := Int.mul_ne_zero h'.q0 h.q0
  have y1 := b40_m81 h.bq h'.bq
  have y2 := b40_m81 h'.bq h.bq
  have x1 : B81 (p * q' + p' * q) := b80_add (b40_mul h.bp h'.bq) (b40_mul h'.bp h.bq)
  have x2 : B81 (p * q' + -p' * q) := b80_add (b40_mul h.bp h'.bq) (b40_mul (b40_neg h'.bp) h.bq)
  have x3 : B81 (p' * q + p * q') := b80_add (b40_mul h'.bp h.bq) (b40_mul h.bp h'.bq)
  have x4 : B81 (p' * q + -p * q') := b80_add (b40_mul h'.bp h.bq) (b40_mul (b40_neg h.bp) h'.bq)
  have x5 := b40_m81 h.bp h'.bp
  have x6 := b40_m81 h'.bp h.bp
  have e := h.is.eq
  have e' := h'.is.eq
  have en : -p * b = -t * q := by rw [Int.neg_mul, Int.neg_mul, e]
  have en' : -p' * b' = -t' * q' := by rw [Int.neg_mul, Int.neg_mul, e']
  refine lsums_ok h.bt h.bb h'.bt h'.bb
    (fun tl => ownA_sh (add_sh z h.bp.bd h.bq.bd h'.bp.bd h'.bq.bd x1.bd y1.bd))
    (fun tl => ownA_sh (sub_sh h'.is.lo h'.is.q0 z h.bp.bd h.bq.bd h'.bp.bd h'.bq.bd x2.bd y1.bd))
    (fun tl => ownR_sh (add_sh z' h'.bp.bd h'.bq.bd h.bp.bd h.bq.bd x3.bd y2.bd))
    (fun tl => ownR_sh (sub_sh h.is.lo h.is.q0 z' h'.bp.bd h'.bq.bd h.bp.bd h.bq.bd x4.bd y2.bd))
    (fun tl => ownA_sh (mul_sh z h.bp.bd h.bq.bd h'.bp.bd h'.bq.bd x5.bd y1.bd))
    (fun tl => ownR_sh (mul_sh z' h'.bp.bd h'.bq.bd h.bp.bd h.bq.bd x6.bd y2.bd))
    (rt_of z x1 y1 (Fr2.add_eq e e')) (rt_of z x2 y1 ?_) (rt_of z' x3 y2 ?_) (rt_of z' x4 y2 ?_) (rt_of z x5 y1 (Fr2.mul_eq e e')) (rt_of z' x6 y2 ?_)
  · have a := Fr2.add_eq e en'
    rw [Int.neg_mul t' b, ← Int.sub_eq_add_neg] at a
    exact a
  · have a := Fr2.add_eq e' e
    rw [Int.add_comm (t' * b), Int.mul_comm b' b] at a
    exact a
  · have a := Fr2.add_eq e' en
    rw [Int.mul_comm b' b] at a
    rw [Int.neg_sub, Int.sub_eq_add_neg, ← Int.neg_mul]
    exact a
  · have a := Fr2.mul_eq e' e
    rw [Int.mul_comm b' b, Int.mul_comm t' t] at a
    exact a
theorem lsumsB (h : Sh p q t b) (hk : B40 k) : F_LSums [vz (shD p q), vz (.int k), vz (.tup [.int t, .int b]), vz (.tup [.int k, .int 1])] = .ok (.bl true) .fz [none, none, none, none] := by
  have q0 := h.q0
  have e := h.is.eq
  have c80 : ∀ {x : Int}, B40 x → x.natAbs ≤ 10 ^ 80 := fun h => Nat.le_trans h (by decide +kernel)
  have y : B81 q := Nat.le_trans h.bq (by decide +kernel)
  have x1 : B81 (p + k * q) := b80_add (c80 h.bp) (b40_mul hk h.bq)
  have x2 : B81 (p - k * q) := b80_sub (c80 h.bp) (b40_mul hk h.bq)
  have x4 : B81 (-p + k * q) := b80_add (c80 (b40_neg h.bp)) (b40_mul hk h.bq)
  have x5 := b40_m81 h.bp hk
  have ad := add_in q0 h.bp.bd h.bq.bd hk.bd x1.bd
  have e1 : (p + k * q) * (b * 1) = (t * 1 + k * b) * q := by
    rw [Int.mul_one, Int.mul_one, Int.add_mul, Int.add_mul, e]
    congr 1
    ac_rfl
  have e5 : p * k * (b * 1) = t * k * q := by
    rw [Int.mul_one]
    calc p * k * b = (p * b) * k := by ac_rfl
      _ = t * q * k := by rw [e]
      _ = t * k * q := by ac_rfl
  refine lsums_ok (t' := k) (b' := 1) h.bt h.bb hk (by decide +kernel)
    (fun tl => ownA_in ad)
    (fun tl => ownA_in (sub_in q0 h.bp.bd h.bq.bd hk.bd x2.bd))
    (fun tl => ownR_in (radd_in ad))
    (fun tl => ownR_in (rsub_in (neg_red h) (add_in q0 (b40_neg h.bp).bd h.bq.bd hk.bd x4.bd)))
    (fun tl => ownA_in (mul_in q0 h.bp.bd h.bq.bd hk.bd x5.bd))
    (fun tl => ownR_in (rmul_in (mul_in q0 h.bp.bd h.bq.bd hk.bd x5.bd)))
    (rt_of q0 x1 y e1) (rt_of q0 x2 y ?_) (rt_of q0 x1 y e1) (rt_of q0 x4 y ?_) (rt_of q0 x5 y e5) (rt_of q0 x5 y e5)
  · rw [Int.mul_one, Int.mul_one, Int.sub_mul, Int.sub_mul, e]
    congr 1
    ac_rfl
  · rw [Int.mul_one, Int.mul_one, Int.neg_sub, Int.add_mul, Int.sub_mul, Int.neg_mul, e, Int.add_comm, ← Int.sub_eq_add_neg]
    congr 1
    ac_rfl
theorem sgn_pos {a s x y : Int} (s0 : 0 < s) (q0 : 0 < x) (e : a * x = s * y) : (a = 0 ↔ y = 0) ∧ (a < 0 ↔ y < 0) ∧ (0 < a ↔ 0 < y) := by
  have k1 : ∀ {u v : Int}, 0 < u → (0 < u * v ↔ 0 < v) := fun hu => ⟨fun h => by
    refine Int.not_le.mp fun n => ?_
    have := Int.mul_nonneg (Int.le_of_lt hu) (show 0 ≤ -_ from Int.neg_nonneg_of_nonpos n)
    rw [Int.mul_neg] at this
    omega, fun h => Int.mul_pos hu h⟩
  have k2 : ∀ {u v : Int}, 0 < u → (u * v < 0 ↔ v < 0) := fun {u v} hu => by
    have := k1 (v := -v) hu
    rw [Int.mul_neg] at this
    omega
  have a1 := k1 (v := a) q0
  have a2 := k2 (v := a) q0
  have b1 := k1 (v := y) s0
  have b2 := k2 (v := y) s0
  rw [Int.mul_comm x a] at a1 a2
  rw [e] at a1 a2
  omega
end

section
variable {k : Nat} {d : D} {v0 v1 v3 v4 x5 v6 v7 v8 v9 v10 v11 v12 v13 : Option Slt}
theorem number_w (h : St k d) (hk : k + 2 ≤ 1000000) : ∃ x d', B40 x ∧ St (k + 2) d' ∧ F_LNumber [vo d] = .ok (.int x) .fz [vo d'] := by
  obtain ⟨j, d1, s1, j0, j1, e1⟩ := take_ok (n := 5) h (by omega) (by omega) (by decide)
  obtain ⟨w, hw, w0, w1⟩ : ∃ w : Int, ixD (.lst [.int 9, .int 9, .int 60, .int 1000000000000, .int 10000000000000000000000000000000000000000]) Vs.stM j = some (.int w, true) ∧ 1 ≤ w ∧ w ≤ 10000000000000000000000000000000000000000 := by
    have : j = 0 ∨ j = 1 ∨ j = 2 ∨ j = 3 ∨ j = 4 := by omega
    rcases this with rfl | rfl | rfl | rfl | rfl
    · exact ⟨9, rfl, by omega, by omega⟩
    · exact ⟨9, rfl, by omega, by omega⟩
    · exact ⟨60, rfl, by omega, by omega⟩
    · exact ⟨1000000000000, rfl, by omega, by omega⟩
    · exact ⟨_, rfl, by omega, by omega⟩
  have bw : Bd (2 * w + 1) := by
    show (2 * w + 1).natAbs ≤ _
    have : (30000000000000000000000000000000000000000 : Nat) ≤ 10 ^ 200 := by decide +kernel
    exact Nat.le_trans (by omega) this
  obtain ⟨j2, d2, s2, j20, j21, e2⟩ := take_ok (n := 2 * w + 1) s1 (by omega) (by omega) (Nat.lt_trans (lg_bd bw) (by decide))
  refine ⟨j2 - w, d2, ?_, s2, ?_⟩
  · show (j2 - w).natAbs ≤ _
    have : (10000000000000000000000000000000000000000 : Nat) = 10 ^ 40 := by decide +kernel
    rw [← this]
    omega
  have p1 : gPow [.int 10, .int 12] = some (.int 1000000000000) := by rfl
  have p2 : gPow [.int 10, .int 40] = some (.int 10000000000000000000000000000000000000000) := by rfl
  have mu : gMulU [.int 2, .int w] = some (.int (2 * w), .fz) := by
    have bw : Bd w := by
      show w.natAbs ≤ _
      have : (30000000000000000000000000000000000000000 : Nat) ≤ 10 ^ 200 := by decide +kernel
      exact Nat.le_trans (by omega) this
    exact muI (i := 2) (by decide +kernel) bw
  have c5 : (5 ≤ lim) = True := eq_true (by decide)
  generalize (10000000000000000000000000000000000000000 : Int) = big at *
  unfold F_LNumber
  refine q_fn (P := fun r => r = Rf.ok (.int (j2 - w)) .fz [vo d2]) rfl ?_
  refine q_seq ?_
  apply q_ev (y := .nx [vo d1, vz (.int w)])
  · show sAsg _ _ [vo d, none] = _
    simp! [p1, p2, c5, e1, hw]
    try rfl
  refine s_nx ?_
  apply q_ev (y := .rt (.int (j2 - w)) .fz [vo d2, vz (.int w)])
  · generalize 2 * w = w2 at *
    simp! [mu, e2]
    try rfl
  · rfl
theorem tops_w (h : St k d) (hk : k + 100 ≤ 1000000) (h5 : x5 = none ∨ ∃ c, x5 = vz c) :
    ∃ (l : List Int) (d' : D), l.length = 3 ∧ (∀ x ∈ l, B40 x) ∧ St (k + 6) d' ∧ sLcK 14 [5] (gN 5) sYes B_Law_1 (rngL 0 3) [v0, v1, vo d, v3, v4, x5, v6, v7, v8, v9, v10, v11, v12, v13] = .ok (.tmp (.lst (l.map .int)) Vs.stM) [v0, v1, vo d', v3, v4, x5, v6, v7, v8, v9, v10, v11, v12, v13] := by
  have loop := lcL_inv (vs := [5]) (f := gN 5) (tt := sYes) (te := B_Law_1)
    (fun i acc e => ∃ (d' : D) (l : List Int), e = [v0, v1, vo d', v3, v4, none, v6, v7, v8, v9, v10, v11, v12, v13] ∧ acc = l.map .int ∧ St (k + 2 * i) d' ∧ l.length = i ∧ ∀ x ∈ l, B40 x)
    (rngL 0 3) 0 [] [v0, v1, vo d, v3, v4, none, v6, v7, v8, v9, v10, v11, v12, v13] (by rw [rngL_len]; decide) (Nat.zero_le _) ⟨d, [], rfl, rfl, h, rfl, fun x hx => nomatch hx⟩ ?_
  · obtain ⟨acc, e', he, d2, l, rfl, rfl, s2, hl, hb⟩ := loop
    rw [rngL_len, Nat.zero_add] at s2 hl
    refine ⟨l, d2, hl, hb, s2, ?_⟩
    generalize B_Law_1 = B at *
    generalize rngL 0 3 = R at *
    generalize l.map D.int = L at *
    rcases h5 with rfl | ⟨c, rfl⟩
    · unfold sLcK
      simp_arith! [he]
    · unfold sLcK
      simp_arith! [he]
  · rintro i dd acc e hd ⟨d2, l, rfl, rfl, s2, hl, hb⟩
    obtain ⟨hi, rfl⟩ := rngL_get hd
    rw [Nat.zero_add] at s2 hl ⊢
    obtain ⟨x, d3, bx, s3, e3⟩ := number_w s2 (by omega)
    refine ⟨_, true, _, rfl, rfl, (fun q => nomatch q), fun _ => ⟨.tmp (.int x) .fz, [v0, v1, vo d3, v3, v4, vz (.int (0 + (i : Nat))), v6, v7, v8, v9, v10, v11, v12, v13], .int x, _, ?_, rfl, d3, l ++ [x], rfl, by rw [List.map_append]; rfl, s3.mono (by omega), by rw [List.length_append, hl]; rfl, fun y hy => ?_⟩⟩
    · unfold B_Law_1
      generalize F_LNumber = FN at *
      show sCall _ _ _ [v0, v1, vo d2, v3, v4, vz (.int (0 + (i : Nat))), v6, v7, v8, v9, v10, v11, v12, v13] = _
      simp! [e3]
      try rfl
    · rcases List.mem_append.mp hy with z | z
      · exact hb y z
      · rw [List.mem_singleton.mp z]; exact bx
theorem bot_turn {Q : Fl → Prop} {l : List Int} (h : St k d) (hk : k + 2 ≤ 1000000) (hl : l.length ≤ 10)
    (yes : ∀ x d', B40 x → x ≠ 0 → St (k + 2) d' → ∀ y, Q (.nx [v0, v1, vo d', v3, vo (.lst ((l ++ [x]).map .int)), x5, vz (.int y), v7, v8, v9, v10, v11, v12, v13])) :
    Q (B_Law_2 [v0, v1, vo d, v3, vo (.lst (l.map .int)), x5, v6, v7, v8, v9, v10, v11, v12, v13]) := by
  obtain ⟨x, d2, bx, s2, e2⟩ := number_w h hk
  have ln : ((l.map D.int).length < lim) = True := eq_true (by rw [List.length_map]; exact Nat.lt_of_le_of_lt hl (by decide))
  unfold B_Law_2
  generalize F_LNumber = FN at *
  refine q_seq ?_
  apply q_ev (y := .nx [v0, v1, vo d2, v3, vo (.lst (l.map .int)), x5, vz (.int x), v7, v8, v9, v10, v11, v12, v13])
  · generalize l.map D.int = L at *
    simp! [e2]
    try rfl
  refine s_nx ?_
  by_cases c : x = 0
  · refine q_ev ?_ (yes 1 d2 (by decide +kernel) (by omega) s2 x)
    have n1 : gNe [.int x, .int 0] = some (.bl false) := by rw [gNe_int, decide_eq_true c]; rfl
    rw [List.map_append]
    generalize l.map D.int = L at *
    simp! [n1, ln]
    try rfl
  · refine q_ev ?_ (yes x d2 bx c s2 x)
    have n1 : gNe [.int x, .int 0] = some (.bl true) := by rw [gNe_int, decide_eq_false c]; rfl
    rw [List.map_append]
    generalize l.map D.int = L at *
    simp! [n1, ln]
    try rfl
end

abbrev twD (t b : Int) : D := .tup [.int t, .int b]
theorem mk_sh {t b : Int} (ht : B40 t) (hb : B40 b) (b0 : b ≠ 0) : ∃ p q, Sh p q t b ∧ F_Share_Init [selfS, vz (.int t), vz (.int b)] = .ok .non .fz [some (.val (shD p q) Vs.stM), none, none] := by
  obtain ⟨h, h1, h2⟩ := Fr2.mk_is (t := t) (b := b) b0
  exact ⟨_, _, ⟨h, Nat.le_trans h1 ht, Nat.le_trans h2 hb, ht, hb, b0⟩, shareN_ok b0 hb.bd ht.bd⟩
theorem Sh.rt {p q t b : Int} (h : Sh p q t b) : Rt p q t b := ⟨h.is, Nat.le_trans h.bp (by decide +kernel), Nat.le_trans h.bq (by decide +kernel)⟩
section
variable {p q p' q' t b t' b' t2 : Int}
theorem apart_all (h : Sh p q t b) (h' : Sh p' q' t' b') {s : Int} (hs : s = if b * b' > 0 then 1 else -1) :
    ((t * b' - t' * b) * s = 0 ↔ p * q' - p' * q = 0) ∧ ((t * b' - t' * b) * s < 0 ↔ p * q' - p' * q < 0) ∧ (0 < (t * b' - t' * b) * s ↔ 0 < p * q' - p' * q) := by
  have ap := Fr2.apart_eq h.is.eq h'.is.eq
  have qq : 0 < q * q' := Int.mul_pos h.is.q0 h'.is.q0
  have bb : b * b' ≠ 0 := Int.mul_ne_zero h.b0 h'.b0
  by_cases c : b * b' > 0
  · rw [if_pos c] at hs
    subst hs
    rw [Int.mul_one]
    exact sgn_pos c qq ap
  · rw [if_neg c] at hs
    subst hs
    have e : ((t * b' - t' * b) * -1) * (q * q') = (-(b * b')) * (p * q' - p' * q) := by
      rw [Int.mul_neg, Int.mul_one, Int.neg_mul, ap, Int.neg_mul]
    exact sgn_pos (by omega) qq e
theorem below_num (h : Sh p q t b) {s k : Int} (hs : s = if b > 0 then 1 else -1) : ((t - k * b) * s < 0 ↔ p < k * q) := by
  have e0 : (t - k * b) * q = b * (p - k * q) := by
    rw [Int.sub_mul, Int.mul_sub, ← h.is.eq]
    congr 1 <;> ac_rfl
  by_cases c : b > 0
  · rw [if_pos c] at hs
    subst hs
    rw [Int.mul_one]
    have := (sgn_pos c h.is.q0 e0).2.1
    omega
  · rw [if_neg c] at hs
    subst hs
    have b0 := h.b0
    have e : ((t - k * b) * -1) * q = (-b) * (p - k * q) := by rw [Int.mul_neg, Int.mul_one, Int.neg_mul, e0, Int.neg_mul]
    have := (sgn_pos (by omega) h.is.q0 e).2.1
    omega
theorem eq_dec (h : Sh p q t b) (h' : Sh p' q' t' b') : (decide (p = p') && decide (q = q')) = decide (p * q' - p' * q = 0) := by
  by_cases c : p * q' - p' * q = 0
  · obtain ⟨e1, e2⟩ := Fr2.same_of h.is.lo h'.is.lo h.is.q0 h'.is.q0 (by omega)
    rw [decide_eq_true c, decide_eq_true e1, decide_eq_true e2]
    rfl
  · rw [decide_eq_false c]
    by_cases e1 : p = p'
    · by_cases e2 : q = q'
      · subst e1
        subst e2
        exact absurd (Int.sub_self _) c
      · rw [decide_eq_false e2, Bool.and_false]
    · rw [decide_eq_false e1, Bool.false_and]
end
theorem nb (r : Bool) : gNe [.bl r, .bl r] = some (.bl false) := by cases r <;> rfl
def S02a : SS := (sIfS (sOrT (sNotT (sTru (sCall [false, false, false] F_LIsShare (sCons (sVar 7) (sCons (sOp2 fIx (sVar 9) (sLit (.int 0))) (sCons (sOp2 fIx (sVar 9) (sLit (.int 1))) sNil)))))) (sNotT (sTru (sCall [false, false, false] F_LIsShare (sCons (sOp1 (fNegOwn "Share" [false] F_Share_Neg) (sVar 7)) (sCons (sOp1 (fRd gNeg) (sOp2 fIx (sVar 9) (sLit (.int 0)))) (sCons (sOp2 fIx (sVar 9) (sLit (.int 1))) sNil)))))))
  (sRet (sLit (.bl false))) sSkip)
def S02b : SS := (sIfS (sOrT (sNotT (sTru (sCall [false, false, false, false] F_LSums (sCons (sVar 7) (sCons (sVar 8) (sCons (sVar 9) (sCons (sVar 10) sNil))))))) (sNotT (sTru (sCall [false, false, false, false] F_LSums (sCons (sVar 7) (sCons (sOp2 fIx (sVar 3) (sLit (.int 2))) (sCons (sVar 9) (sCons (sCB fTup (sCons (sOp2 fIx (sVar 3) (sLit (.int 2))) (sCons (sLit (.int 1)) sNil))) sNil))))))))
  (sRet (sLit (.bl false))) sSkip)
def S02c : SS := (sIfS (sOrT (sTest (sOp2 (fRd gNe) (sEqOwn "Share" [false, false] F_Share_Eq (sVar 7) (sVar 8)) (sOp2 (fRd gEq) (sVar 12) (sLit (.int 0))))) (sOrT (sTest (sOp2 (fRd gNe) (sMeth "Share" "below" [false, false] F_Share_Below (sVar 7) (sCons (sVar 8) sNil)) (sOp2 (fRd gLt) (sVar 12) (sLit (.int 0))))) (sTest (sOp2 (fRd gNe) (sMeth "Share" "below" [false, false] F_Share_Below (sVar 8) (sCons (sVar 7) sNil)) (sOp2 (fRd gGt) (sVar 12) (sLit (.int 0)))))))
  (sRet (sLit (.bl false))) sSkip)
def S02d : SS := (sIfS (sTest (sOp2 (fRd gNe) (sMeth "Share" "below" [false, false] F_Share_Below (sVar 7) (sCons (sOp2 fIx (sVar 3) (sLit (.int 2))) sNil)) (sOp2 (fRd gLt) (sOp2 (fMk gMulU) (sOp2 (fRd gMinus) (sOp2 fIx (sVar 9) (sLit (.int 0))) (sOp2 (fMk gMulU) (sOp2 fIx (sVar 3) (sLit (.int 2))) (sOp2 fIx (sVar 9) (sLit (.int 1))))) (sVar 11)) (sLit (.int 0)))))
  (sRet (sLit (.bl false))) sSkip)
section
variable {v0 v1 v2 v3 v4 x5 v6 v8 v9 v10 v11 v12 v13 : Option Slt} {p q p' q' t b t' b' t2 : Int}
theorem a_core {n : Int} (e1 : F_LIsShare [vz (shD p q), vz (.int t), vz (.int b)] = .ok (.bl true) .fz [none, none, none]) (e2 : F_LIsShare [vz (shD n q), vz (.int (-t)), vz (.int b)] = .ok (.bl true) .fz [none, none, none]) (ng : F_Share_Neg [vz (shD p q)] = .ok (shD n q) Vs.stM [none]) :
    S02a [v0, v1, v2, v3, v4, x5, v6, some (.val (shD p q) Vs.stM), v8, vz (twD t b), v10, v11, v12, v13] = .nx [v0, v1, v2, v3, v4, x5, v6, vz (shD p q), v8, vz (twD t b), v10, v11, v12, v13] := by
  have di := di_sh
  unfold S02a shD twD at *
  generalize F_LIsShare = FI at *
  generalize F_Share_Neg = FN at *
  simp! [e1, fNegOwn, only, isIns, di, ng, e2]
  try rfl
theorem b_core {z z' : D} {m3 : Vs.M} (hm : m3 = .fz ∨ m3 = Vs.stM) {t0 t1 : Int} (e1 : F_LSums [vz z, vz z', vz (twD t b), vz (twD t' b')] = .ok (.bl true) .fz [none, none, none, none]) (e2 : F_LSums [vz z, vz (.int t2), vz (twD t b), vz (twD t2 1)] = .ok (.bl true) .fz [none, none, none, none]) :
    S02b [v0, v1, v2, some (.val (.lst [.int t0, .int t1, .int t2]) m3), v4, x5, v6, vz z, some (.val z' Vs.stM), vz (twD t b), vz (twD t' b'), v11, v12, v13] = .nx [v0, v1, v2, some (.val (.lst [.int t0, .int t1, .int t2]) m3), v4, x5, v6, vz z, vz z', vz (twD t b), vz (twD t' b'), v11, v12, v13] := by
  have c2 : (2 ≤ lim) = True := eq_true (by decide)
  unfold S02b
  generalize F_LSums = FS at *
  unfold twD at *
  rcases hm with rfl | rfl
  · simp! [e1, e2, c2]
    try rfl
  · simp! [e1, e2, c2]
    try rfl
theorem c_core {ap : Int} {r1 r2 r3 : Bool} (e1 : F_Share_Eq [vz (shD p q), vz (shD p' q')] = .ok (.bl r1) .fz [none, none]) (e2 : F_Share_Below [vz (shD p q), vz (shD p' q')] = .ok (.bl r2) .fz [none, none]) (e3 : F_Share_Below [vz (shD p' q'), vz (shD p q)] = .ok (.bl r3) .fz [none, none])
    (g1 : gEq [.int ap, .int 0] = some (.bl r1)) (g2 : gLt [.int ap, .int 0] = some (.bl r2)) (g3 : gGt [.int ap, .int 0] = some (.bl r3)) :
    S02c [v0, v1, v2, v3, v4, x5, v6, vz (shD p q), vz (shD p' q'), v9, v10, v11, vz (.int ap), v13] = .nx [v0, v1, v2, v3, v4, x5, v6, vz (shD p q), vz (shD p' q'), v9, v10, v11, vz (.int ap), v13] := by
  have di := di_sh
  have k1 := sh_below (p := .int p) (q := .int q)
  have k2 := sh_below (p := .int p') (q := .int q')
  have d2 : decide (ap < 0) = r2 := by
    have : some (D.bl (decide (ap < 0))) = some (.bl r2) := g2
    injection this with this
    injection this
  have d3 : decide (0 < ap) = r3 := by
    have : some (D.bl (decide (0 < ap))) = some (.bl r3) := g3
    injection this with this
    injection this
  have n1 := nb r1
  have n2 := nb r2
  have n3 := nb r3
  unfold S02c shD at *
  generalize F_Share_Eq = FE at *
  generalize F_Share_Below = FB at *
  simp! [sEqOwn, fOwn, isIns, di, e1, e2, e3, g1, d2, d3, n1, n2, n3, k1, k2]
  try rfl
theorem d_core {s x1 x2 : Int} {m3 : Vs.M} (hm : m3 = .fz ∨ m3 = Vs.stM) {t0 t1 : Int} {r : Bool} (e1 : F_Share_Below [vz (shD p q), vz (.int t2)] = .ok (.bl r) .fz [none, none]) (m1 : gMulU [.int t2, .int b] = some (.int x1, .fz)) (m2 : gMulU [.int (t - x1), .int s] = some (.int x2, .fz)) (g2 : decide (x2 < 0) = r) :
    S02d [v0, v1, v2, some (.val (.lst [.int t0, .int t1, .int t2]) m3), v4, x5, v6, vz (shD p q), v8, vz (twD t b), v10, vz (.int s), v12, v13] = .nx [v0, v1, v2, some (.val (.lst [.int t0, .int t1, .int t2]) m3), v4, x5, v6, vz (shD p q), v8, vz (twD t b), v10, vz (.int s), v12, v13] := by
  have k1 := sh_below (p := .int p) (q := .int q)
  have n1 := nb r
  unfold S02d shD twD at *
  generalize F_Share_Below = FB at *
  rcases hm with rfl | rfl
  · simp! [e1, m1, m2, g2, n1, k1]
    try rfl
  · simp! [e1, m1, m2, g2, n1, k1]
    try rfl
end

section
variable {v0 v1 v2 v3 v4 x5 v6 v7 v8 v9 v10 v11 v12 v13 : Option Slt} {p q : Int}
theorem strange_turn {z : D} (hz : (∃ i, z = .int i) ∨ z = .non ∨ (∃ w, z = .str w) ∨ (∃ i j, z = .tup [.int i, .int j]) ∨ z = .bl true) :
    B_Law_3 [v0, v1, v2, v3, v4, x5, v6, vz (shD p q), v8, v9, v10, v11, v12, vz z] = .nx [v0, v1, v2, v3, v4, x5, v6, vz (shD p q), v8, v9, v10, v11, v12, vz z] := by
  have di := di_sh
  have hs : (tyS z).isSome = true := by
    rcases hz with ⟨i, rfl⟩ | rfl | ⟨w, rfl⟩ | ⟨i, j, rfl⟩ | rfl <;> rfl
  have e := eq_no (p := p) (q := q) hs
  unfold B_Law_3 shD at *
  generalize F_Share_Eq = FE at *
  rcases hz with ⟨i, rfl⟩ | rfl | ⟨w, rfl⟩ | ⟨i, j, rfl⟩ | rfl
  · simp! [fEqAny, only, isIns, isPlain1, di, e]
    try rfl
  · simp! [fEqAny, only, isIns, isPlain1, di, e]
    try rfl
  · simp! [fEqAny, only, isIns, isPlain1, di, e]
    try rfl
  · simp! [fEqAny, only, isIns, isPlain1, di, e]
    try rfl
  · simp! [fEqAny, only, isIns, isPlain1, di, e]
    try rfl
end
section
variable {ns : List Int} {v2 v3 v4 x5 v6 v7 v8 v9 v10 v11 v12 v13 : Option Slt}
abbrev scrV (ns : List Int) : Option Slt := some (.val (.scr (ns.map .int)) .fz)
theorem round_w {Q : Fl → Prop} (i : Nat) (h5 : x5 = none ∨ ∃ c, x5 = vz c)
    (yes : ∀ d' p q p' q' t b t' b' t2 c5 x6 x9 x10 x11 x12 x13, Sh p q t b → Sh p' q' t' b' → Q (.nx [scrV ns, vz (.int (i : Nat)), vo d', vo (.lst [.int t, .int t', .int t2]), vo (.lst [.int b, .int b']), vz c5, x6, vz (shD p q), vz (shD p' q'), x9, x10, x11, x12, x13])) :
    Q (B_Law_4 [scrV ns, vz (.int (i : Nat)), v2, v3, v4, x5, v6, v7, v8, v9, v10, v11, v12, v13]) := by
  obtain ⟨x, ec⟩ := cell_ok ns i
  obtain ⟨d, hS, es⟩ := state_ok x
  obtain ⟨l, d1, hl, hb, hS1, c1⟩ := tops_w (v0 := scrV ns) (v1 := vz (.int (i : Nat))) (v3 := v3) (v4 := v4) (x5 := x5) (v6 := v6) (v7 := v7) (v8 := v8) (v9 := v9) (v10 := v10) (v11 := v11) (v12 := v12) (v13 := v13) hS (by omega) h5
  match l, hl, hb with
  | [t, t', t2], _, hb =>
  have bt := hb t (by simp)
  have bt' := hb t' (by simp)
  have bt2 := hb t2 (by simp)
  clear hb
  unfold B_Law_4
  generalize hB3 : B_Law_3 = B3
  generalize hB2 : B_Law_2 = B2
  generalize B_Law_1 = B1 at *
  generalize hv0 : scrV ns = v0 at *
  refine q_seq ?_
  apply q_ev (y := .nx [v0, vz (.int (i : Nat)), vo d, v3, v4, x5, v6, v7, v8, v9, v10, v11, v12, v13])
  · rw [← hv0]
    unfold scrV
    generalize ns.map D.int = zs at *
    simp! [ec, es]
    try rfl
  refine s_nx (q_seq ?_)
  apply q_ev (y := .nx [v0, vz (.int (i : Nat)), vo d1, vo (.lst [.int t, .int t', .int t2]), v4, x5, v6, v7, v8, v9, v10, v11, v12, v13])
  · have c1 : sLcK 14 [5] (gN 5) sYes B1 (rngL 0 3) [v0, vz (.int (i : Nat)), vo d, v3, v4, x5, v6, v7, v8, v9, v10, v11, v12, v13] = .ok (.tmp (.lst [.int t, .int t', .int t2]) Vs.stM) [v0, vz (.int (i : Nat)), vo d1, v3, v4, x5, v6, v7, v8, v9, v10, v11, v12, v13] := c1
    have r3 : (Int.natAbs 3 ≤ 1000000000) = True := eq_true (by decide)
    simp! [r3, c1]
    try rfl
  refine s_nx (q_seq ?_)
  apply q_ev (y := .nx [v0, vz (.int (i : Nat)), vo d1, vo (.lst [.int t, .int t', .int t2]), vo (.lst (([] : List Int).map .int)), x5, v6, v7, v8, v9, v10, v11, v12, v13])
  · simp! []
    try rfl
  refine s_nx (q_seq ?_)
  apply q_ev (y := forL (gN 5) B2 (rngL 0 2) [v0, vz (.int (i : Nat)), vo d1, vo (.lst [.int t, .int t', .int t2]), vo (.lst (([] : List Int).map .int)), x5, v6, v7, v8, v9, v10, v11, v12, v13])
  · generalize ([] : List Int).map D.int = z
    simp! []
    try rfl
  refine q_forP [2, 4, 5, 6] (fun j xs => ∃ d' l y5 y6, xs = [vo d', vo (.lst (l.map .int)), y5, y6] ∧ St (6 + 2 * j) d' ∧ l.length = j ∧ (∀ x ∈ l, B40 x ∧ x ≠ 0) ∧ (0 < j → ∃ c, y5 = vz c))
    _ [v0, vz (.int (i : Nat)), vo d1, vo (.lst [.int t, .int t', .int t2]), vo (.lst (([] : List Int).map .int)), x5, v6, v7, v8, v9, v10, v11, v12, v13] _ [vo d1, vo (.lst (([] : List Int).map .int)), x5, v6] rfl ⟨d1, [], x5, v6, rfl, hS1.mono (by omega), rfl, (fun x hx => nomatch hx), fun z => absurd z (by omega)⟩ ?_ ?_
  · rintro j c xs hd ⟨d', l, y5, y6, rfl, hS', hl, hb, _⟩
    obtain ⟨hj, rfl⟩ := rngL_get hd
    refine ⟨_, rfl, ?_⟩
    simp only [puts_cons, puts_nil, List.set_cons_zero, List.set_cons_succ]
    rw [← hB2]
    refine bot_turn (Q := Bq _ _) hS' (by omega) (by omega) fun x d2 bx x0 hS2 y => b_nx ⟨[_, _, _, _], rfl, d2, l ++ [x], _, _, rfl, hS2.mono (by omega), by rw [List.length_append, hl]; rfl, fun z hz => ?_, fun _ => ⟨_, rfl⟩⟩
    rcases List.mem_append.mp hz with k | k
    · exact hb z k
    · rw [List.mem_singleton.mp k]; exact ⟨bx, x0⟩
  rintro xs ⟨d2, lb, y5, y6, rfl, hS2, hlb, hbb, hy5⟩
  rw [rngL_len] at hlb hy5
  obtain ⟨c5, rfl⟩ := hy5 (by omega)
  simp only [puts_cons, puts_nil, List.set_cons_zero, List.set_cons_succ]
  match lb, hlb, hbb with
  | [b, b'], _, hbb =>
  obtain ⟨bb, b0⟩ := hbb b (by simp)
  obtain ⟨bb', b0'⟩ := hbb b' (by simp)
  obtain ⟨p, q, sh, e1⟩ := mk_sh bt bb b0
  obtain ⟨p', q', sh', e2⟩ := mk_sh bt' bb' b0'
  obtain ⟨p2, q2, sh2, e3⟩ := mk_sh (b := 1) bt2 (by decide +kernel) (by omega)
  clear hbb hS hS1 hS2 es ec c1
  show Sq Q _ (.nx [v0, vz (.int (i : Nat)), vo d2, vo (.lst [.int t, .int t', .int t2]), vo (.lst [.int b, .int b']), vz c5, y6, v7, v8, v9, v10, v11, v12, v13])
  have c2 : (2 ≤ lim) = True := eq_true (by decide)
  refine s_nx (q_seq ?_)
  apply q_ev (y := .nx [v0, vz (.int (i : Nat)), vo d2, vo (.lst [.int t, .int t', .int t2]), vo (.lst [.int b, .int b']), vz c5, y6, some (.val (shD p q) Vs.stM), v8, v9, v10, v11, v12, v13])
  · unfold shD at *
    simp! [sMakeK, e1]
    try rfl
  refine s_nx (q_seq ?_)
  apply q_ev (y := .nx [v0, vz (.int (i : Nat)), vo d2, vo (.lst [.int t, .int t', .int t2]), vo (.lst [.int b, .int b']), vz c5, y6, some (.val (shD p q) Vs.stM), some (.val (shD p' q') Vs.stM), v9, v10, v11, v12, v13])
  · generalize hs : some (Slt.val (shD p q) Vs.stM) = S7
    unfold shD at *
    simp! [sMakeK, e2]
    try rfl
  refine s_nx (q_seq ?_)
  apply q_ev (y := .nx [v0, vz (.int (i : Nat)), vo d2, vo (.lst [.int t, .int t', .int t2]), vo (.lst [.int b, .int b']), vz c5, y6, some (.val (shD p q) Vs.stM), some (.val (shD p' q') Vs.stM), vz (twD t b), v10, v11, v12, v13])
  · generalize hs : some (Slt.val (shD p q) Vs.stM) = S7
    generalize hs : some (Slt.val (shD p' q') Vs.stM) = S8
    unfold twD
    simp! [c2]
    try rfl
  refine s_nx (q_seq ?_)
  apply q_ev (y := .nx [v0, vz (.int (i : Nat)), vo d2, vo (.lst [.int t, .int t', .int t2]), vo (.lst [.int b, .int b']), vz c5, y6, some (.val (shD p q) Vs.stM), some (.val (shD p' q') Vs.stM), vz (twD t b), vz (twD t' b'), v11, v12, v13])
  · generalize hs : some (Slt.val (shD p q) Vs.stM) = S7
    generalize hs : some (Slt.val (shD p' q') Vs.stM) = S8
    unfold twD
    simp! [c2]
    try rfl
  refine s_nx (q_seq ?_)
  refine q_ev (a_core (sh.rt.ok bt.bd bb.bd) ((neg_is sh).ok (b40_neg bt).bd bb.bd) (neg_red sh)) ?_
  refine s_nx (q_seq ?_)
  refine q_ev (b_core (.inr rfl) (lsumsA sh sh') (lsumsB sh bt2)) ?_
  refine s_nx (q_seq ?_)
  apply q_ev (y := .nx [v0, vz (.int (i : Nat)), vo d2, vo (.lst [.int t, .int t', .int t2]), vo (.lst [.int b, .int b']), vz c5, y6, vz (shD p q), vz (shD p' q'), vz (twD t b), vz (twD t' b'), v11, v12, v13])
  · have k3 := sh2.rt.ok bt2.bd (b := 1) (by decide +kernel)
    generalize vz (shD p q) = S7
    generalize vz (shD p' q') = S8
    generalize vz (twD t b) = S9
    generalize vz (twD t' b') = S10
    unfold shD at *
    generalize F_LIsShare = FI at *
    simp! [sMakeK, e3, k3]
    try rfl
  refine s_nx (q_seq ?_)
  obtain ⟨s, hs⟩ : ∃ s : Int, s = if b * b' > 0 then 1 else -1 := ⟨_, rfl⟩
  apply q_ev (y := .nx [v0, vz (.int (i : Nat)), vo d2, vo (.lst [.int t, .int t', .int t2]), vo (.lst [.int b, .int b']), vz c5, y6, vz (shD p q), vz (shD p' q'), vz (twD t b), vz (twD t' b'), vz (.int s), v12, v13])
  · have mu := muI bb.bd bb'.bd
    generalize vz (shD p q) = S7
    generalize vz (shD p' q') = S8
    generalize vz (twD t b) = S9
    generalize vz (twD t' b') = S10
    rw [hs]
    by_cases c : b * b' > 0
    · have c1 : decide (b * b' > 0) = true := decide_eq_true c
      rw [if_pos c]
      generalize b * b' = z at *
      simp! [mu, c1]
      try rfl
    · have c1 : decide (b * b' > 0) = false := decide_eq_false c
      rw [if_neg c]
      generalize b * b' = z at *
      simp! [mu, c1]
      try rfl
  refine s_nx (q_seq ?_)
  obtain ⟨ap, hap⟩ : ∃ ap, (t * b' - t' * b) * s = ap := ⟨_, rfl⟩
  have sb : Bd s := by
    rw [hs]
    split <;> decide +kernel
  apply q_ev (y := .nx [v0, vz (.int (i : Nat)), vo d2, vo (.lst [.int t, .int t', .int t2]), vo (.lst [.int b, .int b']), vz c5, y6, vz (shD p q), vz (shD p' q'), vz (twD t b), vz (twD t' b'), vz (.int s), vz (.int ap), v13])
  · have m1 := muI bt.bd bb'.bd
    have m2 := muI bt'.bd bb.bd
    have m3 := muI (b80_sub (b40_mul bt bb') (b40_mul bt' bb)).bd sb
    rw [hap] at m3
    generalize vz (shD p q) = S7
    generalize vz (shD p' q') = S8
    unfold twD
    generalize t * b' = z1 at *
    generalize t' * b = z2 at *
    simp! [m1, m2, m3]
    try rfl
  refine s_nx (q_seq ?_)
  obtain ⟨w1, w2, w3⟩ := apart_all sh sh' hs
  rw [hap] at w1 w2 w3
  have f1 := eq_sh (p := p) (q := q) (p' := p') (q' := q')
  rw [eq_dec sh sh'] at f1
  have f2 := below_sh (p := p) (q := q) (p' := p') (q' := q') sh.bp.bd sh.bq.bd sh'.bp.bd sh'.bq.bd
  have f3 := below_sh (p := p') (q := q') (p' := p) (q' := q) sh'.bp.bd sh'.bq.bd sh.bp.bd sh.bq.bd
  refine q_ev (c_core (ap := ap) f1 f2 f3 (by rw [gEq_int]; congr 2; exact decide_eq_decide.mpr w1) (by show some (D.bl (decide (ap < 0))) = _; congr 2; exact decide_eq_decide.mpr (by omega)) (by show some (D.bl (decide (0 < ap))) = _; congr 2; exact decide_eq_decide.mpr (by omega))) ?_
  refine s_nx (q_seq ?_)
  obtain ⟨s2, hs2⟩ : ∃ s : Int, s = if b > 0 then 1 else -1 := ⟨_, rfl⟩
  apply q_ev (y := .nx [v0, vz (.int (i : Nat)), vo d2, vo (.lst [.int t, .int t', .int t2]), vo (.lst [.int b, .int b']), vz c5, y6, vz (shD p q), vz (shD p' q'), vz (twD t b), vz (twD t' b'), vz (.int s2), vz (.int ap), v13])
  · generalize vz (shD p q) = S7
    generalize vz (shD p' q') = S8
    generalize vz (twD t b) = S9
    generalize vz (twD t' b') = S10
    rw [hs2]
    by_cases c : b > 0
    · have c1 : decide (b > 0) = true := decide_eq_true c
      rw [if_pos c]
      simp! [c1]
      try rfl
    · have c1 : decide (b > 0) = false := decide_eq_false c
      rw [if_neg c]
      simp! [c1]
      try rfl
  refine s_nx (q_seq ?_)
  have sb2 : Bd s2 := by
    rw [hs2]
    split <;> decide +kernel
  have f4 := below_in (p := p) (q := q) (k := t2) sh.bq.bd bt2.bd
  have c80 : t.natAbs ≤ 10 ^ 80 := Nat.le_trans bt (by decide +kernel)
  have m4 := muI (b80_sub c80 (b40_mul bt2 bb)).bd sb2
  refine q_ev (d_core (.inr rfl) f4 (muI bt2.bd bb.bd) m4 (decide_eq_decide.mpr (below_num sh hs2))) ?_
  refine s_nx ?_
  obtain ⟨LS, hLS⟩ : ∃ LS : List D, [D.int t, .non, .str "1", twD t b, .bl true] = LS := ⟨_, rfl⟩
  apply q_ev (y := forL (gN 13) B3 LS [v0, vz (.int (i : Nat)), vo d2, vo (.lst [.int t, .int t', .int t2]), vo (.lst [.int b, .int b']), vz c5, y6, vz (shD p q), vz (shD p' q'), vz (twD t b), vz (twD t' b'), vz (.int s2), vz (.int ap), v13])
  · have c5' : (5 ≤ lim) = True := eq_true (by decide)
    rw [← hLS]
    generalize vz (shD p q) = S7
    generalize vz (shD p' q') = S8
    unfold twD
    simp! [c2, c5']
    try rfl
  refine q_forP [13] (fun j xs => ∃ x13, xs = [x13]) _ [v0, vz (.int (i : Nat)), vo d2, vo (.lst [.int t, .int t', .int t2]), vo (.lst [.int b, .int b']), vz c5, y6, vz (shD p q), vz (shD p' q'), vz (twD t b), vz (twD t' b'), vz (.int s2), vz (.int ap), v13] _ [v13] rfl ⟨v13, rfl⟩ ?_ ?_
  · rintro j c xs hd ⟨x13, rfl⟩
    have hc := List.mem_of_getElem? hd
    rw [← hLS] at hc
    refine ⟨_, rfl, ?_⟩
    simp only [puts_cons, puts_nil, List.set_cons_zero, List.set_cons_succ]
    rw [← hB3]
    refine q_ev (strange_turn ?_) (b_nx ⟨[_], rfl, _, rfl⟩)
    simp only [List.mem_cons, List.not_mem_nil, or_false] at hc
    rcases hc with rfl | rfl | rfl | rfl | rfl
    · exact .inl ⟨_, rfl⟩
    · exact .inr (.inl rfl)
    · exact .inr (.inr (.inl ⟨_, rfl⟩))
    · exact .inr (.inr (.inr (.inl ⟨_, _, rfl⟩)))
    · exact .inr (.inr (.inr (.inr rfl)))
  · rintro xs ⟨x13, rfl⟩
    simp only [puts_cons, puts_nil, List.set_cons_zero, List.set_cons_succ]
    exact yes d2 p q p' q' t b t' b' t2 c5 y6 _ _ _ _ _ sh sh'
end

theorem six {p q t b : Int} (h : Sh p q t b) : F_Share_Init [selfS, vz (.int (t * 6)), vz (.int (b * 6))] = .ok .non .fz [some (.val (shD p q) Vs.stM), none, none] := by
  have b6 : b * 6 ≠ 0 := by have := h.b0; omega
  have s6 : ∀ {x : Int}, B40 x → Bd (x * 6) := fun hx => by
    show (_ * 6 : Int).natAbs ≤ _
    rw [Int.natAbs_mul]
    exact Nat.le_trans (Nat.mul_le_mul_right _ hx) (by decide +kernel)
  have e := shareN_ok b6 (s6 h.bb) (s6 h.bt)
  obtain ⟨is, _, _⟩ := Fr2.mk_is (t := t * 6) (b := b * 6) b6
  generalize Fr2.nP (t * 6) (b * 6) = P at *
  generalize Fr2.nQ (t * 6) (b * 6) = Q at *
  have e1 : P * b = t * Q := by
    have := is.eq
    refine Int.eq_of_mul_eq_mul_right (a := 6) (by omega) ?_
    calc P * b * 6 = P * (b * 6) := by ac_rfl
      _ = t * 6 * Q := this
      _ = t * Q * 6 := by ac_rfl
  have e2 : P * q = p * Q := by
    refine Int.eq_of_mul_eq_mul_right h.b0 ?_
    calc P * q * b = P * b * q := by ac_rfl
      _ = t * Q * q := by rw [e1]
      _ = t * q * Q := by ac_rfl
      _ = p * b * Q := by rw [h.is.eq]
      _ = p * Q * b := by ac_rfl
  obtain ⟨r1, r2⟩ := Fr2.same_of is.lo h.is.lo is.q0 h.is.q0 e2
  rw [r1, r2] at e
  exact e
theorem cut3 (xs : List D) : (Nd.ndCut xs none (some 3)).length ≤ 3 := by
  unfold Nd.ndCut
  rw [List.length_take]
  have : HT.sIx xs.length xs.length (some 3) ≤ 3 := by
    unfold HT.sIx
    simp only [Option.elim]
    simp
    omega
  omega
theorem law_rng {ns : List Int} : ∃ N : Nat, 1 ≤ N ∧ N ≤ 4 ∧ sRng1 (sCons (sOp2 (fMk gAdd) (sLit (.int 1)) (sCB (fRd gLen) (sCons (sSl (sVar 0) sNoPart (sPart (sLit (.int 3)))) sNil))) sNil) [scrV ns, none, none, none, none, none, none, none, none, none, none, none, none, none] = .ok (rngL 0 N) [scrV ns, none, none, none, none, none, none, none, none, none, none, none, none, none] := by
  have n3 := cut3 (ns.map .int)
  obtain ⟨N, hN⟩ : ∃ N : Nat, N = 1 + (Nd.ndCut (ns.map D.int) none (some 3)).length := ⟨_, rfl⟩
  refine ⟨N, by omega, by omega, ?_⟩
  have e1 : (1 : Int) + ((Nd.ndCut (ns.map D.int) none (some 3)).length : Int) = (N : Int) := by omega
  simp_arith [e1]
  rw [if_pos (by omega)]
  rfl
section
variable {p q p' q' t b t' b' t2 : Int} {v0 v1 v2 x5 v6 v9 v10 v11 v12 v13 : Option Slt}
def S02e : SS := (sIfS (sTest (sOp2 (fRd gNe) (sMethK "Share" "below" 0 1 [0, 1] [] [false, false] F_Share_Below (sVar 7) sNil (sCons (sVar 8) sNil)) (sMeth "Share" "below" [false, false] F_Share_Below (sVar 7) (sCons (sVar 8) sNil))))
  (sRet (sLit (.bl false))) sSkip)
def S02f : SS := (sRet (sAndV (sEqOwn "Share" [false, false] F_Share_Eq (sMakeK "Share" 2 0 [0, 1] [(.int 1)] [true, false, false] F_Share_Init (sCons (sOp2 (fMk gMulU) (sOp2 fIx (sVar 3) (sLit (.int 0))) (sLit (.int 6))) (sCons (sOp2 (fMk gMulU) (sOp2 fIx (sVar 4) (sLit (.int 0))) (sLit (.int 6))) sNil)) sNil) (sVar 7)) (sOp2 (fRd gIsBl) (sMeth "Share" "below" [false, false] F_Share_Below (sVar 7) (sCons (sVar 7) sNil)) (sLit (.bl false)))))
theorem e_core (sh : Sh p q t b) (sh' : Sh p' q' t' b') {v3 v4 : Option Slt} : S02e [v0, v1, v2, v3, v4, x5, v6, vz (shD p q), vz (shD p' q'), v9, v10, v11, v12, v13] = .nx [v0, v1, v2, v3, v4, x5, v6, vz (shD p q), vz (shD p' q'), v9, v10, v11, v12, v13] := by
  have f2 := below_sh (p := p) (q := q) (p' := p') (q' := q') sh.bp.bd sh.bq.bd sh'.bp.bd sh'.bq.bd
  have k1 := sh_below (p := .int p) (q := .int q)
  have n1 := nb (decide (p * q' < p' * q))
  unfold S02e shD at *
  generalize decide (p * q' < p' * q) = r at *
  generalize F_Share_Below = FB at *
  simp! [f2, k1, n1]
  try rfl
theorem f_core (sh : Sh p q t b) : ∃ e, S02f [v0, v1, v2, vo (.lst [.int t, .int t', .int t2]), vo (.lst [.int b, .int b']), x5, v6, vz (shD p q), vz (shD p' q'), v9, v10, v11, v12, v13] = .rt (.bl true) .fz (v0 :: e) := by
  have f2 := below_sh (p := p) (q := q) (p' := p) (q' := q) sh.bp.bd sh.bq.bd sh.bp.bd sh.bq.bd
  have dl : decide (p * q < p * q) = false := decide_eq_false (by omega)
  rw [dl] at f2
  have f1 := eq_sh (p := p) (q := q) (p' := p) (q' := q)
  rw [decide_eq_true rfl, decide_eq_true rfl] at f1
  have f1 : F_Share_Eq [vz (shD p q), vz (shD p q)] = .ok (.bl true) .fz [none, none] := f1
  have k1 := sh_below (p := .int p) (q := .int q)
  have s6 := six sh
  have di := di_sh
  have m1 := muI (j := 6) sh.bt.bd (by decide +kernel)
  have m2 := muI (j := 6) sh.bb.bd (by decide +kernel)
  have g0 : gIsBl [.bl false, .bl false] = some (.bl true) := rfl
  refine ⟨[v1, v2, vo (.lst [.int t, .int t', .int t2]), vo (.lst [.int b, .int b']), x5, v6, vz (shD p q), vz (shD p' q'), v9, v10, v11, v12, v13], ?_⟩
  generalize vz (shD p' q') = S8
  unfold S02f shD at *
  generalize F_Share_Below = FB at *
  generalize F_Share_Eq = FE at *
  generalize F_Share_Init = FI at *
  generalize t * 6 = t6 at *
  generalize b * 6 = b6 at *
  simp! [sMakeK, m1, m2, s6, sEqOwn, fOwn, isIns, di, f1, f2, k1, g0]
  try rfl
end
theorem law_true (ns : List Int) (_ : ns.length ≤ 63) : ∃ m ps, F_Law (scr0 ns) = .ok (.bl true) m ps := by
  obtain ⟨N, n1, n4, hN⟩ := law_rng (ns := ns)
  have rnd := @round_w ns
  unfold F_Law scr0
  generalize B_Law_4 = B4 at *
  refine q_fn (P := fun r => ∃ m ps, r = .ok (.bl true) m ps) rfl ?_
  refine q_seq ?_
  refine q_for hN ?_
  refine q_forL (fun i e => ∃ v1 v2 v3 v4 x5 v6 v7 v8 v9 v10 v11 v12 v13, e = [scrV ns, v1, v2, v3, v4, x5, v6, v7, v8, v9, v10, v11, v12, v13] ∧ (x5 = none ∨ ∃ c, x5 = vz c) ∧
    (0 < i → ∃ p q p' q' t b t' b' t2, Sh p q t b ∧ Sh p' q' t' b' ∧ v3 = vo (.lst [.int t, .int t', .int t2]) ∧ v4 = vo (.lst [.int b, .int b']) ∧ v7 = vz (shD p q) ∧ v8 = vz (shD p' q'))) _ _
    ⟨none, none, none, none, none, none, none, none, none, none, none, none, none, rfl, .inl rfl, fun z => absurd z (by omega)⟩ ?_ ?_
  · rintro i d e hd ⟨v1, v2, v3, v4, x5, v6, v7, v8, v9, v10, v11, v12, v13, rfl, h5, _⟩
    obtain ⟨hi, rfl⟩ := rngL_get hd
    rw [Int.zero_add]
    refine ⟨_, rfl, ?_⟩
    show Bq _ _ (B4 [scrV ns, vz (.int (i : Nat)), v2, v3, v4, x5, v6, v7, v8, v9, v10, v11, v12, v13])
    exact rnd (Q := Bq _ _) i h5 fun d' p q p' q' t b t' b' t2 c5 x6 x9 x10 x11 x12 x13 sh sh' => b_nx ⟨_, _, _, _, _, _, _, _, _, _, _, _, _, rfl, .inr ⟨_, rfl⟩, fun _ => ⟨p, q, p', q', t, b, t', b', t2, sh, sh', rfl, rfl, rfl, rfl⟩⟩
  · rintro e ⟨v1, v2, v3, v4, x5, v6, v7, v8, v9, v10, v11, v12, v13, rfl, h5, hd⟩
    rw [rngL_len] at hd
    obtain ⟨p, q, p', q', t, b, t', b', t2, sh, sh', rfl, rfl, rfl, rfl⟩ := hd (by omega)
    clear rnd hN
    refine s_nx (q_seq ?_)
    refine q_ev (e_core sh sh') ?_
    refine s_nx ?_
    obtain ⟨e, he⟩ := f_core (v0 := scrV ns) (v1 := v1) (v2 := v2) (x5 := x5) (v6 := v6) (v9 := v9) (v10 := v10) (v11 := v11) (v12 := v12) (v13 := v13) (p' := p') (q' := q') (t' := t') (b' := b') (t2 := t2) sh
    exact q_ev he ⟨_, _, rfl⟩

abbrev OkD (w : World) (K : PySem.W.Frag) (mg : Str → Option Value) (base : Heap) (k : Nat) (a : Addr) (d : He.DefD) (ps : List Str) (sp : L2.Sp) : Prop := ∃ fd, FnG PP w K mg base (L2.CX PP w) k a fd ps sp ∧ FunD K d.name d.qual d.params d.body d.scope (He.DefD.dvs K d) (He.DefD.kws K d) (He.fAd K d.at_) fd ∧ PySem.W.keepIn K (.ref a) = true
local macro_rules | `(tactic| trivial) => `(tactic| first | exact Or.inl rfl | exact Or.inr rfl)
section
variable {w : World} {K : PySem.W.Frag} {mg : Str → Option Value} {base : Heap} {CX : CXT} {k : Nat} {a f : Addr} {fd : FuncData} {ps : List Str} {sp : L2.Sp} {x qual : Str} {params : Arguments} {body : List Stmt} {scope : Scope} {kws : List (Str × V)} {T : CxA} {ro : List Nat}
theorem sgN {i : Nat} (h : i ∉ ro := by decide) : SndG K T ro (gName i) (gN i) := sndg_name h
end
section
variable {w : World} {K : PySem.W.Frag} {h : Heap} {mg : Str → Option Value} {base : Heap} (X : K.In h) (Gm : h.Ns mainGlobals mg) (c : Says K)
include X Gm c
def zc_Share := He.cls_ok (c.d.fact 13 (f := .cls "Share") rfl)
def zg_BadShare := He.glo_ok X Gm (c.d.fact 11 (f := .glo "BadShare") rfl)
def zg_Share := He.glo_ok X Gm (c.d.fact 12 (f := .glo "Share") rfl)
def zg__law_cell := He.glo_ok X Gm (c.d.fact 2 (f := .glo "_law_cell") rfl)
def zg__law_is_int := He.glo_ok X Gm (c.d.fact 5 (f := .glo "_law_is_int") rfl)
def zg__law_is_share := He.glo_ok X Gm (c.d.fact 7 (f := .glo "_law_is_share") rfl)
def zg__law_number := He.glo_ok X Gm (c.d.fact 6 (f := .glo "_law_number") rfl)
def zg__law_state := He.glo_ok X Gm (c.d.fact 3 (f := .glo "_law_state") rfl)
def zg__law_sums := He.glo_ok X Gm (c.d.fact 8 (f := .glo "_law_sums") rfl)
def zg__law_take := He.glo_ok X Gm (c.d.fact 4 (f := .glo "_law_take") rfl)
def zg_abs := He.free_ok X Gm (c.d.fact 31 (f := .free "abs") rfl)
def zg_bool := He.free_ok X Gm (c.d.fact 30 (f := .free "bool") rfl)
def zg_common_part := He.glo_ok X Gm (c.d.fact 1 (f := .glo "common_part") rfl)
def zg_int := He.free_ok X Gm (c.d.fact 27 (f := .free "int") rfl)
def zg_is_integer := He.glo_ok X Gm (c.d.fact 0 (f := .glo "is_integer") rfl)
def zg_isinstance := He.free_ok X Gm (c.d.fact 28 (f := .free "isinstance") rfl)
def zg_len := He.free_ok X Gm (c.d.fact 26 (f := .free "len") rfl)
def zg_range := He.free_ok X Gm (c.d.fact 29 (f := .free "range") rfl)
def zg_super := He.free_ok X Gm (c.d.fact 32 (f := .free "super") rfl)
theorem zh_ics : ∀ c ∈ ics, Cls K (He.ga K c) ∧ He.InsC K (He.ga K c) := (fac ⟨zc_Share c, c.ins 0 (x := "Share") rfl⟩ faz)
theorem zhf_bottom : ∀ c ∈ (["Share"] : List PySem.Str), Cls K (He.ga K c) ∧ NoAttr K (He.ga K c) "bottom" := (fac ⟨zc_Share c, He.noat_ok (c.d.fact 15 (f := .noat "Share" "bottom") rfl)⟩ faz)
theorem zhf_top : ∀ c ∈ (["Share"] : List PySem.Str), Cls K (He.ga K c) ∧ NoAttr K (He.ga K c) "top" := (fac ⟨zc_Share c, He.noat_ok (c.d.fact 14 (f := .noat "Share" "top") rfl)⟩ faz)
theorem ok_LCell : OkD w K mg base 1 (He.ga K "_law_cell") dLCell ["_law_script", "_law_at"] (spV K 2 F_LCell) := by
  obtain ⟨fd, F⟩ := c.d.def_ 12 (d := dLCell) rfl
  refine ⟨fd, ?_, F, F.kp⟩
  have mg_int := zg_int X Gm c
  have mg_len := zg_len X Gm c
  exact fn_V (k := 0) (n := 2) (nl := 0) (io := [false, false]) F scLCell rfl rfl rfl rfl (fun cdv A outer sh H E hr hg => ⟨_, (pss_cons (ps_if (pt_cmpR (op_ltU (K := K) rfl (un0 hr)) (pv 1) (pe_callB (call_lenU (K := K) rfl) (by rfl) mg_len (by decide +kernel) (pa_cons (pv 0) pa_nil)) (nomark _))
  (pss_one (ps_ret (pe_callTy call_int1 (by rfl) mg_int (by decide +kernel) (pa_cons (pe_ixU (K := K) rfl (un1 hr) (pv 0) (pv 1) (fun _ _ => rfl) (fun _ _ => rfl)) pa_nil)))) pss_nil)
  (pss_one (ps_ret pe_int))), (snds_seq (snds_if (snd_test (snd_op2 (cbs_rd rd_lt) snd_var (snd_cb (snd_cons snd_var snd_nil) (cbs_rd rd_len))))
  (snds_ret (snd_cb (snd_cons (snd_ix snd_var snd_var) snd_nil) (cbs_rd rd_int))) snds_skip)
  (snds_ret snd_int))⟩)
theorem ok_LIsInt : OkD w K mg base 1 (He.ga K "_law_is_int") dLIsInt ["_law_value"] (spV K 1 F_LIsInt) := by
  obtain ⟨fd, F⟩ := c.d.def_ 15 (d := dLIsInt) rfl
  refine ⟨fd, ?_, F, F.kp⟩
  have mg_bool := zg_bool X Gm c
  have mg_int := zg_int X Gm c
  have mg_isinstance := zg_isinstance X Gm c
  have clShare := zc_Share c
  have hics := zh_ics X Gm c
  exact fn_V (k := 0) (n := 1) (nl := 0) (io := [false]) F scLIsInt rfl rfl rfl rfl (fun cdv A outer sh H E hr hg => ⟨_, (pss_one (ps_ret (pe_and (pe_callB (call_isiK' (K := K) rfl) (by rfl) mg_isinstance (by decide +kernel) (pa_cons (pv 0) (pa_cons (pe_bltn (v := .ty "int") (by rfl) mg_int (by decide +kernel) rfl) pa_nil))) (pe_one (pe_not (pe_callB (call_isiK' (K := K) rfl) (by rfl) mg_isinstance (by decide +kernel) (pa_cons (pv 0) (pa_cons (pe_bltn (v := .ty "bool") (by rfl) mg_bool (by decide +kernel) rfl) pa_nil)))))))), (snds_ret (snd_andV (snd_cb (snd_cons snd_var (snd_cons snd_ty snd_nil)) (cbs_rd (rd_isi hics))) (snd_notV (snd_cb (snd_cons snd_var (snd_cons snd_ty snd_nil)) (cbs_rd (rd_isi hics))))))⟩)
theorem ok_LIsShare : OkD w K mg base 2 (He.ga K "_law_is_share") dLIsShare ["_law_value", "_law_top", "_law_bottom"] (spV K 3 F_LIsShare) := by
  obtain ⟨fd, F⟩ := c.d.def_ 17 (d := dLIsShare) rfl
  refine ⟨fd, ?_, F, F.kp⟩
  obtain ⟨_, GLIsInt, FLIsInt, kpLIsInt⟩ := ok_LIsInt (w := w) (base := base) X Gm c
  have kbLIsInt_1 := FLIsInt.kbp (ps := ["_law_value"]) 1 [] [0] (fun _ _ _ _ _ _ us ws h1 h2 => match us, ws, h1, h2 with | [_], [], _, _ => rfl)
  have mg_Share := zg_Share X Gm c
  have mg__law_is_int := zg__law_is_int X Gm c
  have mg_abs := zg_abs X Gm c
  have mg_int := zg_int X Gm c
  have mg_isinstance := zg_isinstance X Gm c
  have mg_range := zg_range X Gm c
  have clShare := zc_Share c
  have hics := zh_ics X Gm c
  have hf_bottom := zhf_bottom X Gm c
  have hf_top := zhf_top X Gm c
  exact fn_V (k := 1) (n := 3) (nl := 4) (io := [false, false, false]) F scLIsShare rfl rfl rfl rfl (fun cdv A outer sh H E hr hg => ⟨_, (pss_cons (ps_if (PW.pt (pw_or (pt_not (pt_truthK (K := K) rfl (pe_callB (call_isiK' (K := K) rfl) (by rfl) mg_isinstance (by decide +kernel) (pa_cons (pv 0) (pa_cons (pe_glob (v := .ref (He.ga K "Share")) (by rfl) mg_Share rfl) pa_nil))) (by intro _; rfl))) (pw_or (pt_not (pt_truthK (K := K) rfl (pe_fP GLIsInt (hr.mono (by decide)) (by exact hg) (by rfl) mg__law_is_int kpLIsInt kbLIsInt_1 passF (pa_cons (pe_fldK (K := K) rfl (pv 0) rfl) pa_nil)) (by intro _; rfl))) (pw_or1 (pt_not (pt_truthK (K := K) rfl (pe_fP GLIsInt (hr.mono (by decide)) (by exact hg) (by rfl) mg__law_is_int kpLIsInt kbLIsInt_1 passF (pa_cons (pe_fldK (K := K) rfl (pv 0) rfl) pa_nil)) (by intro _; rfl)))))))
  (pss_one (ps_ret pe_bl)) pss_nil)
  (pss_cons (ps_if (PW.pt (pw_or (pt_cmpR (op_ltU (K := K) rfl (un0 hr)) (pe_fldK (K := K) rfl (pv 0) rfl) pe_int (nomark _)) (pw_or1 (pt_cmpR (op_neU (K := K) rfl (un64 hr)) (pe_op (op_mulU (K := K) rfl) (pe_fldK (K := K) rfl (pv 0) rfl) (pv 2)) (pe_op (op_mulU (K := K) rfl) (pv 1) (pe_fldK (K := K) rfl (pv 0) rfl)) (nomark _)))))
  (pss_one (ps_ret pe_bl)) pss_nil)
  (pss_cons (ps_set (i := 3) scLIsShare.nd rfl (by trivial) (pe_callB call_abs (by rfl) mg_abs (by decide +kernel) (pa_cons (pe_fldK (K := K) rfl (pv 0) rfl) pa_nil)))
  (pss_cons (ps_set (i := 4) scLIsShare.nd rfl (by trivial) (pe_fldK (K := K) rfl (pv 0) rfl))
  (pss_cons (ps_for (passes_of rfl) rfl (pi_range1 (by rfl) mg_range (pa_cons pe_int pa_nil)) (pg_name (i := 5) scLIsShare.nd rfl (by trivial))
  (pss_one (ps_if (pt_cmpR op_gtU (pv 4) pe_int (nomark _))
  (pss_cons (ps_set (i := 6) scLIsShare.nd rfl (by trivial) (pe_op op_mod (pe_callTy call_int1 (by rfl) mg_int (by decide +kernel) (pa_cons (pv 3) pa_nil)) (pe_callTy call_int1 (by rfl) mg_int (by decide +kernel) (pa_cons (pv 4) pa_nil))))
  (pss_cons (ps_set (i := 3) scLIsShare.nd rfl (by trivial) (pv 4))
  (pss_one (ps_set (i := 4) scLIsShare.nd rfl (by trivial) (pv 6))))) pss_nil)))
  (pss_one (ps_ret (pe_cmpR (op_eqU (K := K) rfl (un64 hr)) (pv 3) pe_int (nomark _))))))))), (snds_seq (snds_if (snd_orT (snd_notT (snd_tru (snd_cb (snd_cons snd_var (snd_cons snd_glo snd_nil)) (cbs_rd (rd_isi hics))))) (snd_orT (snd_notT (snd_tru (snd_call rfl (snd_cons (snd_attr hf_top snd_var) snd_nil)))) (snd_notT (snd_tru (snd_call rfl (snd_cons (snd_attr hf_bottom snd_var) snd_nil))))))
  (snds_ret snd_bl) snds_skip)
  (snds_seq (snds_if (snd_orT (snd_test (snd_op2 (cbs_rd rd_lt) (snd_attr hf_bottom snd_var) snd_int)) (snd_test (snd_op2 (cbs_rd rd_ne) (snd_op2 (cbs_mk mk_mulU) (snd_attr hf_top snd_var) snd_var) (snd_op2 (cbs_mk mk_mulU) snd_var (snd_attr hf_bottom snd_var)))))
  (snds_ret snd_bl) snds_skip)
  (snds_seq (snds_asg (snd_cb (snd_cons (snd_attr hf_top snd_var) snd_nil) (cbs_rd rd_abs)) sgN)
  (snds_seq (snds_asg (snd_attr hf_bottom snd_var) sgN)
  (snds_seq (snds_for (snd_rng1 (snd_cons snd_int snd_nil)) sgN
  (snds_if (snd_test (snd_op2 (cbs_rd rd_gt) snd_var snd_int))
  (snds_seq (snds_asg (snd_op2 (cbs_rd rd_mod) (snd_cb (snd_cons snd_var snd_nil) (cbs_rd rd_int)) (snd_cb (snd_cons snd_var snd_nil) (cbs_rd rd_int))) sgN)
  (snds_seq (snds_asg snd_var sgN)
  (snds_asg snd_var sgN))) snds_skip))
  (snds_ret (snd_op2 (cbs_rd rd_eq) snd_var snd_int)))))))⟩)
theorem ok_LTake : OkD w K mg base 1 (He.ga K "_law_take") dLTake ["_law_state_here", "_law_many"] (spV K 2 F_LTake) := by
  obtain ⟨fd, F⟩ := c.d.def_ 14 (d := dLTake) rfl
  refine ⟨fd, ?_, F, F.kp⟩
  have mg_int := zg_int X Gm c
  exact fn_V (k := 0) (n := 2) (nl := 2) (io := [true, false]) F scLTake rfl rfl rfl rfl (fun cdv A outer sh H E hr hg => ⟨_, (pss_cons (ps_if (pt_cmpR op_gtU (pe_ixU (K := K) rfl (un1 hr) (pv 0) pe_int (fun _ _ => rfl) (fun _ _ => rfl)) pe_int (nomark _))
  (pss_cons (ps_set (i := 2) scLTake.nd rfl (by trivial) (pe_op op_mod (pe_callTy call_int1 (by rfl) mg_int (by decide +kernel) (pa_cons (pe_ixU (K := K) rfl (un1 hr) (pv 0) pe_int (fun _ _ => rfl) (fun _ _ => rfl)) pa_nil)) (pv 1)))
  (pss_cons (ps_asg (pe_op op_fdivU (pe_ixU (K := K) rfl (un1 hr) (pv 0) pe_int (fun _ _ => rfl) (fun _ _ => rfl)) (pv 1)) (pg_sub (pv 0) pe_int (set_U (un1 hr))))
  (pss_one (ps_ret (pv 2))))) pss_nil)
  (pss_cons (ps_asg (pe_op (op_addU (K := K) rfl) (pe_ixU (K := K) rfl (un1 hr) (pv 0) pe_int (fun _ _ => rfl) (fun _ _ => rfl)) pe_int) (pg_sub (pv 0) pe_int (set_U (un1 hr))))
  (pss_cons (ps_set (i := 3) scLTake.nd rfl (by trivial) (pe_op op_mod (pe_callTy call_int1 (by rfl) mg_int (by decide +kernel) (pa_cons (pe_op (op_mulU (K := K) rfl) (pe_op (op_addU (K := K) rfl) (pe_op (op_addU (K := K) rfl) (pe_ixU (K := K) rfl (un1 hr) (pv 0) pe_int (fun _ _ => rfl) (fun _ _ => rfl)) (pe_op (op_mulU (K := K) rfl) pe_int (pe_ixU (K := K) rfl (un1 hr) (pv 0) pe_int (fun _ _ => rfl) (fun _ _ => rfl)))) pe_int) pe_int) pa_nil)) pe_int))
  (pss_cons (ps_set (i := 3) scLTake.nd rfl (by trivial) (pe_op op_mod (pe_callTy call_int1 (by rfl) mg_int (by decide +kernel) (pa_cons (pe_op (op_mulU (K := K) rfl) (pv 3) (pe_op (op_addU (K := K) rfl) (pe_op op_fdivU (pv 3) pe_int) pe_int)) pa_nil)) pe_int))
  (pss_one (ps_ret (pe_op op_mod (pe_callTy call_int1 (by rfl) mg_int (by decide +kernel) (pa_cons (pe_op op_fdivU (pe_op op_mod (pe_op (op_mulU (K := K) rfl) (pv 3) (pe_op (op_addU (K := K) rfl) (pe_op op_fdivU (pv 3) pe_int) pe_int)) pe_int) pe_int) pa_nil)) (pv 1)))))))), (snds_seq (snds_if (snd_test (snd_op2 (cbs_rd rd_gt) (snd_ix snd_var snd_int) snd_int))
  (snds_seq (snds_asg (snd_op2 (cbs_rd rd_mod) (snd_cb (snd_cons (snd_ix snd_var snd_int) snd_nil) (cbs_rd rd_int)) snd_var) sgN)
  (snds_seq (snds_store (snd_op2 (cbs_rd rd_div) (snd_ix snd_var snd_int) snd_var) snd_var snd_int)
  (snds_ret snd_var))) snds_skip)
  (snds_seq (snds_store (snd_op2 (cbs_mk mk_add) (snd_ix snd_var snd_int) snd_int) snd_var snd_int)
  (snds_seq (snds_asg (snd_op2 (cbs_rd rd_mod) (snd_cb (snd_cons (snd_op2 (cbs_mk mk_mulU) (snd_op2 (cbs_mk mk_add) (snd_op2 (cbs_mk mk_add) (snd_ix snd_var snd_int) (snd_op2 (cbs_mk mk_mulU) snd_int (snd_ix snd_var snd_int))) snd_int) snd_int) snd_nil) (cbs_rd rd_int)) snd_int) sgN)
  (snds_seq (snds_asg (snd_op2 (cbs_rd rd_mod) (snd_cb (snd_cons (snd_op2 (cbs_mk mk_mulU) snd_var (snd_op2 (cbs_mk mk_add) (snd_op2 (cbs_rd rd_div) snd_var snd_int) snd_int)) snd_nil) (cbs_rd rd_int)) snd_int) sgN)
  (snds_ret (snd_op2 (cbs_rd rd_mod) (snd_cb (snd_cons (snd_op2 (cbs_rd rd_div) (snd_op2 (cbs_rd rd_mod) (snd_op2 (cbs_mk mk_mulU) snd_var (snd_op2 (cbs_mk mk_add) (snd_op2 (cbs_rd rd_div) snd_var snd_int) snd_int)) snd_int) snd_int) snd_nil) (cbs_rd rd_int)) snd_var))))))⟩)
theorem ok_LNumber : OkD w K mg base 2 (He.ga K "_law_number") dLNumber ["_law_state_here"] (spV K 1 F_LNumber) := by
  obtain ⟨fd, F⟩ := c.d.def_ 16 (d := dLNumber) rfl
  refine ⟨fd, ?_, F, F.kp⟩
  obtain ⟨_, GLTake, FLTake, kpLTake⟩ := ok_LTake (w := w) (base := base) X Gm c
  have kbLTake_2 := FLTake.kbp (ps := ["_law_state_here", "_law_many"]) 2 [] [0, 1] (fun _ _ _ _ _ _ us ws h1 h2 => match us, ws, h1, h2 with | [_, _], [], _, _ => rfl)
  have mg__law_take := zg__law_take X Gm c
  exact fn_V (k := 1) (n := 1) (nl := 1) (io := [true]) F scLNumber rfl rfl rfl rfl (fun cdv A outer sh H E hr hg => ⟨_, (pss_cons (ps_set (i := 1) scLNumber.nd rfl (by trivial) (pe_ixU (K := K) rfl (un1 hr) (pe_lst (pa_cons pe_int (pa_cons pe_int (pa_cons pe_int (pa_cons (pe_op op_pow pe_int pe_int) (pa_cons (pe_op op_pow pe_int pe_int) pa_nil)))))) (pe_fP GLTake (hr.mono (by decide)) (by exact hg) (by rfl) mg__law_take kpLTake kbLTake_2 passF (pa_cons (pv 0) (pa_cons pe_int pa_nil))) (fun _ _ => rfl) (fun _ _ => rfl)))
  (pss_one (ps_ret (pe_op op_sub (pe_fP GLTake (hr.mono (by decide)) (by exact hg) (by rfl) mg__law_take kpLTake kbLTake_2 passF (pa_cons (pv 0) (pa_cons (pe_op (op_addU (K := K) rfl) (pe_op (op_mulU (K := K) rfl) pe_int (pv 1)) pe_int) pa_nil))) (pv 1))))), (snds_seq (snds_asg (snd_ix (snd_lst (snd_cons snd_int (snd_cons snd_int (snd_cons snd_int (snd_cons (snd_op2 (cbs_rd rd_pow) snd_int snd_int) (snd_cons (snd_op2 (cbs_rd rd_pow) snd_int snd_int) snd_nil)))))) (snd_call rfl (snd_cons snd_var (snd_cons snd_int snd_nil)))) sgN)
  (snds_ret (snd_op2 (cbs_rd rd_sub) (snd_call rfl (snd_cons snd_var (snd_cons (snd_op2 (cbs_mk mk_add) (snd_op2 (cbs_mk mk_mulU) snd_int snd_var) snd_int) snd_nil))) snd_var)))⟩)
theorem ok_LState : OkD w K mg base 1 (He.ga K "_law_state") dLState ["_law_cell_here"] (spV K 1 F_LState) := by
  obtain ⟨fd, F⟩ := c.d.def_ 13 (d := dLState) rfl
  refine ⟨fd, ?_, F, F.kp⟩
  have mg_abs := zg_abs X Gm c
  have mg_int := zg_int X Gm c
  exact fn_V (k := 0) (n := 1) (nl := 0) (io := [false]) F scLState rfl rfl rfl rfl (fun cdv A outer sh H E hr hg => ⟨_, (pss_cons (ps_if (pt_cmpR op_ge (pe_callB call_abs (by rfl) mg_abs (by decide +kernel) (pa_cons (pv 0) pa_nil)) (pe_op op_pow pe_int pe_int) (nomark _))
  (pss_one (ps_ret (pe_lst (pa_cons (pe_callB call_abs (by rfl) mg_abs (by decide +kernel) (pa_cons (pv 0) pa_nil)) (pa_cons pe_int (pa_cons pe_int pa_nil)))))) pss_nil)
  (pss_one (ps_ret (pe_lst (pa_cons pe_int (pa_cons (pe_op op_mod (pe_callTy call_int1 (by rfl) mg_int (by decide +kernel) (pa_cons (pv 0) pa_nil)) pe_int) (pa_cons pe_int pa_nil))))))), (snds_seq (snds_if (snd_test (snd_op2 (cbs_rd rd_ge) (snd_cb (snd_cons snd_var snd_nil) (cbs_rd rd_abs)) (snd_op2 (cbs_rd rd_pow) snd_int snd_int)))
  (snds_ret (snd_lst (snd_cons (snd_cb (snd_cons snd_var snd_nil) (cbs_rd rd_abs)) (snd_cons snd_int (snd_cons snd_int snd_nil))))) snds_skip)
  (snds_ret (snd_lst (snd_cons snd_int (snd_cons (snd_op2 (cbs_rd rd_mod) (snd_cb (snd_cons snd_var snd_nil) (cbs_rd rd_int)) snd_int) (snd_cons snd_int snd_nil))))))⟩)
theorem ok_IsInteger : OkD w K mg base 1 (He.ga K "is_integer") dIsInteger ["value"] (spV K 1 F_IsInteger) := by
  obtain ⟨fd, F⟩ := c.d.def_ 0 (d := dIsInteger) rfl
  refine ⟨fd, ?_, F, F.kp⟩
  have mg_bool := zg_bool X Gm c
  have mg_int := zg_int X Gm c
  have mg_isinstance := zg_isinstance X Gm c
  have clShare := zc_Share c
  have hics := zh_ics X Gm c
  exact fn_V (k := 0) (n := 1) (nl := 0) (io := [false]) F scIsInteger rfl rfl rfl rfl (fun cdv A outer sh H E hr hg => ⟨_, (pss_one (ps_ret (pe_and (pe_callB (call_isiK' (K := K) rfl) (by rfl) mg_isinstance (by decide +kernel) (pa_cons (pv 0) (pa_cons (pe_bltn (v := .ty "int") (by rfl) mg_int (by decide +kernel) rfl) pa_nil))) (pe_one (pe_not (pe_callB (call_isiK' (K := K) rfl) (by rfl) mg_isinstance (by decide +kernel) (pa_cons (pv 0) (pa_cons (pe_bltn (v := .ty "bool") (by rfl) mg_bool (by decide +kernel) rfl) pa_nil)))))))), (snds_ret (snd_andV (snd_cb (snd_cons snd_var (snd_cons snd_ty snd_nil)) (cbs_rd (rd_isi hics))) (snd_notV (snd_cb (snd_cons snd_var (snd_cons snd_ty snd_nil)) (cbs_rd (rd_isi hics))))))⟩)
theorem ok_CommonPart : OkD w K mg base 1 (He.ga K "common_part") dCommonPart ["one", "other"] (spV K 2 F_CommonPart) := by
  obtain ⟨fd, F⟩ := c.d.def_ 1 (d := dCommonPart) rfl
  refine ⟨fd, ?_, F, F.kp⟩
  have mg_abs := zg_abs X Gm c
  exact fn_V (k := 0) (n := 2) (nl := 3) (io := [false, false]) F scCommonPart rfl rfl rfl rfl (fun cdv A outer sh H E hr hg => ⟨_, (pss_cons (ps_set (i := 2) scCommonPart.nd rfl (by trivial) (pe_callB call_abs (by rfl) mg_abs (by decide +kernel) (pa_cons (pv 0) pa_nil)))
  (pss_cons (ps_set (i := 3) scCommonPart.nd rfl (by trivial) (pe_callB call_abs (by rfl) mg_abs (by decide +kernel) (pa_cons (pv 1) pa_nil)))
  (pss_cons (ps_while (passes_of rfl) (pt_cmpR op_gtU (pv 3) pe_int (nomark _))
  (pss_cons (ps_set (i := 4) scCommonPart.nd rfl (by trivial) (pe_op op_mod (pv 2) (pv 3)))
  (pss_cons (ps_set (i := 2) scCommonPart.nd rfl (by trivial) (pv 3))
  (pss_one (ps_set (i := 3) scCommonPart.nd rfl (by trivial) (pv 4))))))
  (pss_one (ps_ret (pv 2)))))), (snds_seq (snds_asg (snd_cb (snd_cons snd_var snd_nil) (cbs_rd rd_abs)) sgN)
  (snds_seq (snds_asg (snd_cb (snd_cons snd_var snd_nil) (cbs_rd rd_abs)) sgN)
  (snds_seq (snds_while (snd_test (snd_op2 (cbs_rd rd_gt) snd_var snd_int))
  (snds_seq (snds_asg (snd_op2 (cbs_rd rd_mod) snd_var snd_var) sgN)
  (snds_seq (snds_asg snd_var sgN)
  (snds_asg snd_var sgN))))
  (snds_ret snd_var))))⟩)
theorem ok_Share_Init : OkD w K mg base 2 (He.ma K (He.ga K "Share") "__init__") dShare_Init ["self", "top", "bottom"] (spV K 3 F_Share_Init) := by
  obtain ⟨fd, F⟩ := c.d.def_ 2 (d := dShare_Init) rfl
  refine ⟨fd, ?_, F, F.kp⟩
  obtain ⟨_, GCommonPart, FCommonPart, kpCommonPart⟩ := ok_CommonPart (w := w) (base := base) X Gm c
  obtain ⟨_, GIsInteger, FIsInteger, kpIsInteger⟩ := ok_IsInteger (w := w) (base := base) X Gm c
  have kbCommonPart_2 := FCommonPart.kbp (ps := ["one", "other"]) 2 [] [0, 1] (fun _ _ _ _ _ _ us ws h1 h2 => match us, ws, h1, h2 with | [_, _], [], _, _ => rfl)
  have kbIsInteger_1 := FIsInteger.kbp (ps := ["value"]) 1 [] [0] (fun _ _ _ _ _ _ us ws h1 h2 => match us, ws, h1, h2 with | [_], [], _, _ => rfl)
  have mg_BadShare := zg_BadShare X Gm c
  have mg_common_part := zg_common_part X Gm c
  have mg_is_integer := zg_is_integer X Gm c
  have mg_super := zg_super X Gm c
  have clShare := zc_Share c
  have UBadShare := c.err 1 (x := "BadShare") rfl
  have hf_bottom := zhf_bottom X Gm c
  have hf_top := zhf_top X Gm c
  have TX := (txt c).1
  exact fn_V (k := 1) (n := 3) (nl := 1) (io := [true, false, false]) F scShare_Init rfl rfl rfl rfl (fun cdv A outer sh H E hr hg => ⟨_, (pss_cons (ps_if (pt_not (pt_truthK (K := K) rfl (pe_fP GIsInteger (hr.mono (by decide)) (by exact hg) (by rfl) mg_is_integer kpIsInteger kbIsInteger_1 passF (pa_cons (pv 1) pa_nil)) (by intro _; rfl)))
  (pss_one (ps_raiseOwe rfl TX UBadShare mg_BadShare mg_super hr takesF (by exact (pa_cons pe_str pa_nil)) (by rfl))) pss_nil)
  (pss_cons (ps_if (PW.pt (pw_or (pt_not (pt_truthK (K := K) rfl (pe_fP GIsInteger (hr.mono (by decide)) (by exact hg) (by rfl) mg_is_integer kpIsInteger kbIsInteger_1 passF (pa_cons (pv 2) pa_nil)) (by intro _; rfl))) (pw_or1 (pt_cmpR (op_eqU (K := K) rfl (un64 hr)) (pv 2) pe_int (nomark _)))))
  (pss_one (ps_raiseOwe rfl TX UBadShare mg_BadShare mg_super hr takesF (by exact (pa_cons pe_str pa_nil)) (by rfl))) pss_nil)
  (pss_cons (ps_set (i := 3) scShare_Init.nd rfl (by trivial) (pe_fP GCommonPart (hr.mono (by decide)) (by exact hg) (by rfl) mg_common_part kpCommonPart kbCommonPart_2 passF (pa_cons (pv 1) (pa_cons (pv 2) pa_nil))))
  (pss_cons (ps_if (pt_cmpR (op_ltU (K := K) rfl (un0 hr)) (pv 2) pe_int (nomark _))
  (pss_one (ps_set (i := 3) scShare_Init.nd rfl (by trivial) (pe_un un_neg (pv 3)))) pss_nil)
  (pss_cons (ps_fldK (K := K) rfl (pv 0) (pe_op op_fdivV (pv 1) (pv 3)) rfl)
  (pss_one (ps_fldK (K := K) rfl (pv 0) (pe_op op_fdivV (pv 2) (pv 3)) rfl))))))), (snds_seq (snds_if (snd_notT (snd_tru (snd_call rfl (snd_cons snd_var snd_nil))))
  (snds_raise (c := "BadShare") (snd_cons snd_str snd_nil)) snds_skip)
  (snds_seq (snds_if (snd_orT (snd_notT (snd_tru (snd_call rfl (snd_cons snd_var snd_nil)))) (snd_test (snd_op2 (cbs_rd rd_eq) snd_var snd_int)))
  (snds_raise (c := "BadShare") (snd_cons snd_str snd_nil)) snds_skip)
  (snds_seq (snds_asg (snd_call rfl (snd_cons snd_var (snd_cons snd_var snd_nil))) sgN)
  (snds_seq (snds_if (snd_test (snd_op2 (cbs_rd rd_lt) snd_var snd_int))
  (snds_asg (snd_op1 (cbs_rd rd_neg) snd_var) sgN) snds_skip)
  (snds_seq (snds_stF hf_top (snd_op2 (cbs_rd rd_divV) snd_var snd_var) snd_var)
  (snds_stF hf_bottom (snd_op2 (cbs_rd rd_divV) snd_var snd_var) snd_var))))))⟩)
theorem ok_Share_Add : OkD w K mg base 4 (He.ma K (He.ga K "Share") "__add__") dShare_Add ["self", "other"] (spV K 2 F_Share_Add) := by
  obtain ⟨fd, F⟩ := c.d.def_ 5 (d := dShare_Add) rfl
  refine ⟨fd, ?_, F, F.kp⟩
  obtain ⟨_, GIsInteger, FIsInteger, kpIsInteger⟩ := ok_IsInteger (w := w) (base := base) X Gm c
  obtain ⟨_, GShare_Init, FShare_Init, kpShare_Init⟩ := ok_Share_Init (w := w) (base := base) X Gm c
  have kbIsInteger_1 := FIsInteger.kbp (ps := ["value"]) 1 [] [0] (fun _ _ _ _ _ _ us ws h1 h2 => match us, ws, h1, h2 with | [_], [], _, _ => rfl)
  obtain ⟨itskbShare_Init_3, kbShare_Init_3⟩ := FShare_Init.kbd (ps := ["self", "top", "bottom"]) 3 [] [0, 1, 2] (List.cons_ne_nil _ _) (fun _ _ _ _ _ _ _ us its ws h1 h2 h3 => match us, its, ws, h1, h2, h3 with | [_, _, _], [_], [], _, _, _ => ⟨_, rfl, rfl⟩)
  have mg_Share := zg_Share X Gm c
  have mg_is_integer := zg_is_integer X Gm c
  have mg_isinstance := zg_isinstance X Gm c
  have clShare := zc_Share c
  have hics := zh_ics X Gm c
  have mkShare := He.mkr_ok (c.d.fact 16 (f := .mkr "Share") rfl)
  have hf_bottom := zhf_bottom X Gm c
  have hf_top := zhf_top X Gm c
  exact fn_V (k := 3) (n := 2) (nl := 0) (io := [false, false]) F scShare_Add rfl rfl rfl rfl (fun cdv A outer sh H E hr hg => ⟨_, (pss_cons (ps_if (pt_truthK (K := K) rfl (pe_callB (call_isiK' (K := K) rfl) (by rfl) mg_isinstance (by decide +kernel) (pa_cons (pv 1) (pa_cons (pe_glob (v := .ref (He.ga K "Share")) (by rfl) mg_Share rfl) pa_nil))) (by intro _; rfl))
  (pss_one (ps_ret (pe_cP mkShare GShare_Init (hr.mono (by decide)) (by exact hg) (by rfl) mg_Share kbShare_Init_3 passF (pa_cons (pe_op (op_addU (K := K) rfl) (pe_op (op_mulU (K := K) rfl) (pe_fldK (K := K) rfl (pv 0) rfl) (pe_fldK (K := K) rfl (pv 1) rfl)) (pe_op (op_mulU (K := K) rfl) (pe_fldK (K := K) rfl (pv 1) rfl) (pe_fldK (K := K) rfl (pv 0) rfl))) (pa_cons (pe_op (op_mulU (K := K) rfl) (pe_fldK (K := K) rfl (pv 0) rfl) (pe_fldK (K := K) rfl (pv 1) rfl)) pa_nil))))) pss_nil)
  (pss_cons (ps_if (pt_truthK (K := K) rfl (pe_fP GIsInteger (hr.mono (by decide)) (by exact hg) (by rfl) mg_is_integer kpIsInteger kbIsInteger_1 passF (pa_cons (pv 1) pa_nil)) (by intro _; rfl))
  (pss_one (ps_ret (pe_cP mkShare GShare_Init (hr.mono (by decide)) (by exact hg) (by rfl) mg_Share kbShare_Init_3 passF (pa_cons (pe_op (op_addU (K := K) rfl) (pe_fldK (K := K) rfl (pv 0) rfl) (pe_op (op_mulU (K := K) rfl) (pv 1) (pe_fldK (K := K) rfl (pv 0) rfl))) (pa_cons (pe_fldK (K := K) rfl (pv 0) rfl) pa_nil))))) pss_nil)
  (pss_one ps_dead))), (snds_seq (snds_if (snd_tru (snd_cb (snd_cons snd_var (snd_cons snd_glo snd_nil)) (cbs_rd (rd_isi hics))))
  (snds_ret (snd_makeK (c := "Share") (idx := [0, 1]) (dds := [(.int 1)]) rfl (fun _ => (.cons (.int _) .nil)) (snd_cons (snd_op2 (cbs_mk mk_add) (snd_op2 (cbs_mk mk_mulU) (snd_attr hf_top snd_var) (snd_attr hf_bottom snd_var)) (snd_op2 (cbs_mk mk_mulU) (snd_attr hf_top snd_var) (snd_attr hf_bottom snd_var))) (snd_cons (snd_op2 (cbs_mk mk_mulU) (snd_attr hf_bottom snd_var) (snd_attr hf_bottom snd_var)) snd_nil)) snd_nil)) snds_skip)
  (snds_seq (snds_if (snd_tru (snd_call rfl (snd_cons snd_var snd_nil)))
  (snds_ret (snd_makeK (c := "Share") (idx := [0, 1]) (dds := [(.int 1)]) rfl (fun _ => (.cons (.int _) .nil)) (snd_cons (snd_op2 (cbs_mk mk_add) (snd_attr hf_top snd_var) (snd_op2 (cbs_mk mk_mulU) snd_var (snd_attr hf_bottom snd_var))) (snd_cons (snd_attr hf_bottom snd_var) snd_nil)) snd_nil)) snds_skip)
  snds_dead))⟩)
theorem ok_Share_Mul : OkD w K mg base 4 (He.ma K (He.ga K "Share") "__mul__") dShare_Mul ["self", "other"] (spV K 2 F_Share_Mul) := by
  obtain ⟨fd, F⟩ := c.d.def_ 9 (d := dShare_Mul) rfl
  refine ⟨fd, ?_, F, F.kp⟩
  obtain ⟨_, GIsInteger, FIsInteger, kpIsInteger⟩ := ok_IsInteger (w := w) (base := base) X Gm c
  obtain ⟨_, GShare_Init, FShare_Init, kpShare_Init⟩ := ok_Share_Init (w := w) (base := base) X Gm c
  have kbIsInteger_1 := FIsInteger.kbp (ps := ["value"]) 1 [] [0] (fun _ _ _ _ _ _ us ws h1 h2 => match us, ws, h1, h2 with | [_], [], _, _ => rfl)
  obtain ⟨itskbShare_Init_3, kbShare_Init_3⟩ := FShare_Init.kbd (ps := ["self", "top", "bottom"]) 3 [] [0, 1, 2] (List.cons_ne_nil _ _) (fun _ _ _ _ _ _ _ us its ws h1 h2 h3 => match us, its, ws, h1, h2, h3 with | [_, _, _], [_], [], _, _, _ => ⟨_, rfl, rfl⟩)
  have mg_Share := zg_Share X Gm c
  have mg_is_integer := zg_is_integer X Gm c
  have mg_isinstance := zg_isinstance X Gm c
  have clShare := zc_Share c
  have hics := zh_ics X Gm c
  have mkShare := He.mkr_ok (c.d.fact 16 (f := .mkr "Share") rfl)
  have hf_bottom := zhf_bottom X Gm c
  have hf_top := zhf_top X Gm c
  exact fn_V (k := 3) (n := 2) (nl := 0) (io := [false, false]) F scShare_Mul rfl rfl rfl rfl (fun cdv A outer sh H E hr hg => ⟨_, (pss_cons (ps_if (pt_truthK (K := K) rfl (pe_callB (call_isiK' (K := K) rfl) (by rfl) mg_isinstance (by decide +kernel) (pa_cons (pv 1) (pa_cons (pe_glob (v := .ref (He.ga K "Share")) (by rfl) mg_Share rfl) pa_nil))) (by intro _; rfl))
  (pss_one (ps_ret (pe_cP mkShare GShare_Init (hr.mono (by decide)) (by exact hg) (by rfl) mg_Share kbShare_Init_3 passF (pa_cons (pe_op (op_mulU (K := K) rfl) (pe_fldK (K := K) rfl (pv 0) rfl) (pe_fldK (K := K) rfl (pv 1) rfl)) (pa_cons (pe_op (op_mulU (K := K) rfl) (pe_fldK (K := K) rfl (pv 0) rfl) (pe_fldK (K := K) rfl (pv 1) rfl)) pa_nil))))) pss_nil)
  (pss_cons (ps_if (pt_truthK (K := K) rfl (pe_fP GIsInteger (hr.mono (by decide)) (by exact hg) (by rfl) mg_is_integer kpIsInteger kbIsInteger_1 passF (pa_cons (pv 1) pa_nil)) (by intro _; rfl))
  (pss_one (ps_ret (pe_cP mkShare GShare_Init (hr.mono (by decide)) (by exact hg) (by rfl) mg_Share kbShare_Init_3 passF (pa_cons (pe_op (op_mulU (K := K) rfl) (pe_fldK (K := K) rfl (pv 0) rfl) (pv 1)) (pa_cons (pe_fldK (K := K) rfl (pv 0) rfl) pa_nil))))) pss_nil)
  (pss_one ps_dead))), (snds_seq (snds_if (snd_tru (snd_cb (snd_cons snd_var (snd_cons snd_glo snd_nil)) (cbs_rd (rd_isi hics))))
  (snds_ret (snd_makeK (c := "Share") (idx := [0, 1]) (dds := [(.int 1)]) rfl (fun _ => (.cons (.int _) .nil)) (snd_cons (snd_op2 (cbs_mk mk_mulU) (snd_attr hf_top snd_var) (snd_attr hf_top snd_var)) (snd_cons (snd_op2 (cbs_mk mk_mulU) (snd_attr hf_bottom snd_var) (snd_attr hf_bottom snd_var)) snd_nil)) snd_nil)) snds_skip)
  (snds_seq (snds_if (snd_tru (snd_call rfl (snd_cons snd_var snd_nil)))
  (snds_ret (snd_makeK (c := "Share") (idx := [0, 1]) (dds := [(.int 1)]) rfl (fun _ => (.cons (.int _) .nil)) (snd_cons (snd_op2 (cbs_mk mk_mulU) (snd_attr hf_top snd_var) snd_var) (snd_cons (snd_attr hf_bottom snd_var) snd_nil)) snd_nil)) snds_skip)
  snds_dead))⟩)
theorem ok_Share_Radd : OkD w K mg base 5 (He.ma K (He.ga K "Share") "__radd__") dShare_Radd ["self", "other"] (spV K 2 F_Share_Radd) := by
  obtain ⟨fd, F⟩ := c.d.def_ 6 (d := dShare_Radd) rfl
  refine ⟨fd, ?_, F, F.kp⟩
  obtain ⟨_, GShare_Add, FShare_Add, kpShare_Add⟩ := ok_Share_Add (w := w) (base := base) X Gm c
  have kbShare_Add_2 := FShare_Add.kbp (ps := ["self", "other"]) 2 [] [0, 1] (fun _ _ _ _ _ _ us ws h1 h2 => match us, ws, h1, h2 with | [_, _], [], _, _ => rfl)
  have clShare := zc_Share c
  have hics := zh_ics X Gm c
  have mShare_Add := He.meth_ok (c.d.fact 19 (f := .meth "Share" "__add__") rfl)
  have mShare_Radd := He.meth_ok (c.d.fact 20 (f := .meth "Share" "__radd__") rfl)
  exact fn_V (k := 4) (n := 2) (nl := 0) (io := [false, false]) F scShare_Radd rfl rfl rfl rfl (fun cdv A outer sh H E hr hg => ⟨_, (pss_one (ps_ret (pe_op (op_binInt (op := .Add) rfl rfl ⟨_, rfl⟩ ⟨_, rfl⟩ mShare_Add mShare_Radd (hics "Share" (by decide)).2.sf GShare_Add (hr.mono (by decide)) (by exact hg) kbShare_Add_2 (fun _ _ => rfl) (fun σ => passC σ)) (pv 0) (pv 1)))), (snds_ret (snd_mulOwn (c := "Share") rfl snd_var snd_var))⟩)
theorem ok_Share_Rmul : OkD w K mg base 5 (He.ma K (He.ga K "Share") "__rmul__") dShare_Rmul ["self", "other"] (spV K 2 F_Share_Rmul) := by
  obtain ⟨fd, F⟩ := c.d.def_ 10 (d := dShare_Rmul) rfl
  refine ⟨fd, ?_, F, F.kp⟩
  obtain ⟨_, GShare_Mul, FShare_Mul, kpShare_Mul⟩ := ok_Share_Mul (w := w) (base := base) X Gm c
  have kbShare_Mul_2 := FShare_Mul.kbp (ps := ["self", "other"]) 2 [] [0, 1] (fun _ _ _ _ _ _ us ws h1 h2 => match us, ws, h1, h2 with | [_, _], [], _, _ => rfl)
  have clShare := zc_Share c
  have hics := zh_ics X Gm c
  have mShare_Mul := He.meth_ok (c.d.fact 23 (f := .meth "Share" "__mul__") rfl)
  have mShare_Rmul := He.meth_ok (c.d.fact 24 (f := .meth "Share" "__rmul__") rfl)
  exact fn_V (k := 4) (n := 2) (nl := 0) (io := [false, false]) F scShare_Rmul rfl rfl rfl rfl (fun cdv A outer sh H E hr hg => ⟨_, (pss_one (ps_ret (pe_op (op_binInt (op := .Mult) rfl rfl ⟨_, rfl⟩ ⟨_, rfl⟩ mShare_Mul mShare_Rmul (hics "Share" (by decide)).2.sf GShare_Mul (hr.mono (by decide)) (by exact hg) kbShare_Mul_2 (fun _ _ => rfl) (fun σ => passC σ)) (pv 0) (pv 1)))), (snds_ret (snd_mulOwn (c := "Share") rfl snd_var snd_var))⟩)
theorem ok_Share_Neg : OkD w K mg base 4 (He.ma K (He.ga K "Share") "__neg__") dShare_Neg ["self"] (spV K 1 F_Share_Neg) := by
  obtain ⟨fd, F⟩ := c.d.def_ 4 (d := dShare_Neg) rfl
  refine ⟨fd, ?_, F, F.kp⟩
  obtain ⟨_, GShare_Init, FShare_Init, kpShare_Init⟩ := ok_Share_Init (w := w) (base := base) X Gm c
  obtain ⟨itskbShare_Init_3, kbShare_Init_3⟩ := FShare_Init.kbd (ps := ["self", "top", "bottom"]) 3 [] [0, 1, 2] (List.cons_ne_nil _ _) (fun _ _ _ _ _ _ _ us its ws h1 h2 h3 => match us, its, ws, h1, h2, h3 with | [_, _, _], [_], [], _, _, _ => ⟨_, rfl, rfl⟩)
  have mg_Share := zg_Share X Gm c
  have clShare := zc_Share c
  have mkShare := He.mkr_ok (c.d.fact 16 (f := .mkr "Share") rfl)
  have hf_bottom := zhf_bottom X Gm c
  have hf_top := zhf_top X Gm c
  exact fn_V (k := 3) (n := 1) (nl := 0) (io := [false]) F scShare_Neg rfl rfl rfl rfl (fun cdv A outer sh H E hr hg => ⟨_, (pss_one (ps_ret (pe_cP mkShare GShare_Init (hr.mono (by decide)) (by exact hg) (by rfl) mg_Share kbShare_Init_3 passF (pa_cons (pe_un un_neg (pe_fldK (K := K) rfl (pv 0) rfl)) (pa_cons (pe_fldK (K := K) rfl (pv 0) rfl) pa_nil))))), (snds_ret (snd_makeK (c := "Share") (idx := [0, 1]) (dds := [(.int 1)]) rfl (fun _ => (.cons (.int _) .nil)) (snd_cons (snd_op1 (cbs_rd rd_neg) (snd_attr hf_top snd_var)) (snd_cons (snd_attr hf_bottom snd_var) snd_nil)) snd_nil))⟩)
theorem ok_Share_Rsub : OkD w K mg base 5 (He.ma K (He.ga K "Share") "__rsub__") dShare_Rsub ["self", "other"] (spV K 2 F_Share_Rsub) := by
  obtain ⟨fd, F⟩ := c.d.def_ 8 (d := dShare_Rsub) rfl
  refine ⟨fd, ?_, F, F.kp⟩
  obtain ⟨_, GShare_Add, FShare_Add, kpShare_Add⟩ := ok_Share_Add (w := w) (base := base) X Gm c
  obtain ⟨_, GShare_Neg, FShare_Neg, kpShare_Neg⟩ := ok_Share_Neg (w := w) (base := base) X Gm c
  have kbShare_Add_2 := FShare_Add.kbp (ps := ["self", "other"]) 2 [] [0, 1] (fun _ _ _ _ _ _ us ws h1 h2 => match us, ws, h1, h2 with | [_, _], [], _, _ => rfl)
  have kbShare_Neg_1 := FShare_Neg.kbp (ps := ["self"]) 1 [] [0] (fun _ _ _ _ _ _ us ws h1 h2 => match us, ws, h1, h2 with | [_], [], _, _ => rfl)
  have clShare := zc_Share c
  have hics := zh_ics X Gm c
  have mShare_Add := He.meth_ok (c.d.fact 19 (f := .meth "Share" "__add__") rfl)
  have mShare_Neg := He.meth_ok (c.d.fact 18 (f := .meth "Share" "__neg__") rfl)
  have mShare_Radd := He.meth_ok (c.d.fact 20 (f := .meth "Share" "__radd__") rfl)
  exact fn_V (k := 4) (n := 2) (nl := 0) (io := [false, false]) F scShare_Rsub rfl rfl rfl rfl (fun cdv A outer sh H E hr hg => ⟨_, (pss_one (ps_ret (pe_op (op_binInt (op := .Add) rfl rfl ⟨_, rfl⟩ ⟨_, rfl⟩ mShare_Add mShare_Radd (hics "Share" (by decide)).2.sf GShare_Add (hr.mono (by decide)) (by exact hg) kbShare_Add_2 (fun _ _ => rfl) (fun σ => passC σ)) (pe_un (un_negOwn mShare_Neg GShare_Neg (hr.mono (by decide)) (by exact hg) kbShare_Neg_1 (fun _ => rfl) (fun σ => passC σ)) (pv 0)) (pv 1)))), (snds_ret (snd_mulOwn (c := "Share") rfl (snd_op1 (cbs_negOwn (c := "Share") rfl) snd_var) snd_var))⟩)
theorem ok_Share_Sub : OkD w K mg base 5 (He.ma K (He.ga K "Share") "__sub__") dShare_Sub ["self", "other"] (spV K 2 F_Share_Sub) := by
  obtain ⟨fd, F⟩ := c.d.def_ 7 (d := dShare_Sub) rfl
  refine ⟨fd, ?_, F, F.kp⟩
  obtain ⟨_, GIsInteger, FIsInteger, kpIsInteger⟩ := ok_IsInteger (w := w) (base := base) X Gm c
  obtain ⟨_, GShare_Add, FShare_Add, kpShare_Add⟩ := ok_Share_Add (w := w) (base := base) X Gm c
  obtain ⟨_, GShare_Init, FShare_Init, kpShare_Init⟩ := ok_Share_Init (w := w) (base := base) X Gm c
  have kbIsInteger_1 := FIsInteger.kbp (ps := ["value"]) 1 [] [0] (fun _ _ _ _ _ _ us ws h1 h2 => match us, ws, h1, h2 with | [_], [], _, _ => rfl)
  have kbShare_Add_2 := FShare_Add.kbp (ps := ["self", "other"]) 2 [] [0, 1] (fun _ _ _ _ _ _ us ws h1 h2 => match us, ws, h1, h2 with | [_, _], [], _, _ => rfl)
  obtain ⟨itskbShare_Init_3, kbShare_Init_3⟩ := FShare_Init.kbd (ps := ["self", "top", "bottom"]) 3 [] [0, 1, 2] (List.cons_ne_nil _ _) (fun _ _ _ _ _ _ _ us its ws h1 h2 h3 => match us, its, ws, h1, h2, h3 with | [_, _, _], [_], [], _, _, _ => ⟨_, rfl, rfl⟩)
  have mg_Share := zg_Share X Gm c
  have mg_is_integer := zg_is_integer X Gm c
  have mg_isinstance := zg_isinstance X Gm c
  have clShare := zc_Share c
  have hics := zh_ics X Gm c
  have mShare_Add := He.meth_ok (c.d.fact 19 (f := .meth "Share" "__add__") rfl)
  have mkShare := He.mkr_ok (c.d.fact 16 (f := .mkr "Share") rfl)
  have hf_bottom := zhf_bottom X Gm c
  have hf_top := zhf_top X Gm c
  exact fn_V (k := 4) (n := 2) (nl := 0) (io := [false, false]) F scShare_Sub rfl rfl rfl rfl (fun cdv A outer sh H E hr hg => ⟨_, (pss_cons (ps_if (pt_truthK (K := K) rfl (pe_callB (call_isiK' (K := K) rfl) (by rfl) mg_isinstance (by decide +kernel) (pa_cons (pv 1) (pa_cons (pe_glob (v := .ref (He.ga K "Share")) (by rfl) mg_Share rfl) pa_nil))) (by intro _; rfl))
  (pss_one (ps_ret (pe_op (op_binOwn (op := .Add) rfl mShare_Add (hics "Share" (by decide)).2.sf GShare_Add (hr.mono (by decide)) (by exact hg) kbShare_Add_2 (fun _ _ => rfl) (fun σ => passC σ)) (pv 0) (pe_cP mkShare GShare_Init (hr.mono (by decide)) (by exact hg) (by rfl) mg_Share kbShare_Init_3 passF (pa_cons (pe_un un_neg (pe_fldK (K := K) rfl (pv 1) rfl)) (pa_cons (pe_fldK (K := K) rfl (pv 1) rfl) pa_nil)))))) pss_nil)
  (pss_cons (ps_if (pt_truthK (K := K) rfl (pe_fP GIsInteger (hr.mono (by decide)) (by exact hg) (by rfl) mg_is_integer kpIsInteger kbIsInteger_1 passF (pa_cons (pv 1) pa_nil)) (by intro _; rfl))
  (pss_one (ps_ret (pe_cP mkShare GShare_Init (hr.mono (by decide)) (by exact hg) (by rfl) mg_Share kbShare_Init_3 passF (pa_cons (pe_op op_sub (pe_fldK (K := K) rfl (pv 0) rfl) (pe_op (op_mulU (K := K) rfl) (pv 1) (pe_fldK (K := K) rfl (pv 0) rfl))) (pa_cons (pe_fldK (K := K) rfl (pv 0) rfl) pa_nil))))) pss_nil)
  (pss_one ps_dead))), (snds_seq (snds_if (snd_tru (snd_cb (snd_cons snd_var (snd_cons snd_glo snd_nil)) (cbs_rd (rd_isi hics))))
  (snds_ret (snd_eqOwn (c := "Share") rfl snd_var (snd_makeK (c := "Share") (idx := [0, 1]) (dds := [(.int 1)]) rfl (fun _ => (.cons (.int _) .nil)) (snd_cons (snd_op1 (cbs_rd rd_neg) (snd_attr hf_top snd_var)) (snd_cons (snd_attr hf_bottom snd_var) snd_nil)) snd_nil))) snds_skip)
  (snds_seq (snds_if (snd_tru (snd_call rfl (snd_cons snd_var snd_nil)))
  (snds_ret (snd_makeK (c := "Share") (idx := [0, 1]) (dds := [(.int 1)]) rfl (fun _ => (.cons (.int _) .nil)) (snd_cons (snd_op2 (cbs_rd rd_sub) (snd_attr hf_top snd_var) (snd_op2 (cbs_mk mk_mulU) snd_var (snd_attr hf_bottom snd_var))) (snd_cons (snd_attr hf_bottom snd_var) snd_nil)) snd_nil)) snds_skip)
  snds_dead))⟩)
theorem ok_LSums : OkD w K mg base 6 (He.ga K "_law_sums") dLSums ["_law_share", "_law_other", "_law_one", "_law_two"] (spV K 4 F_LSums) := by
  obtain ⟨fd, F⟩ := c.d.def_ 18 (d := dLSums) rfl
  refine ⟨fd, ?_, F, F.kp⟩
  obtain ⟨_, GLIsShare, FLIsShare, kpLIsShare⟩ := ok_LIsShare (w := w) (base := base) X Gm c
  obtain ⟨_, GShare_Add, FShare_Add, kpShare_Add⟩ := ok_Share_Add (w := w) (base := base) X Gm c
  obtain ⟨_, GShare_Mul, FShare_Mul, kpShare_Mul⟩ := ok_Share_Mul (w := w) (base := base) X Gm c
  obtain ⟨_, GShare_Radd, FShare_Radd, kpShare_Radd⟩ := ok_Share_Radd (w := w) (base := base) X Gm c
  obtain ⟨_, GShare_Rmul, FShare_Rmul, kpShare_Rmul⟩ := ok_Share_Rmul (w := w) (base := base) X Gm c
  obtain ⟨_, GShare_Rsub, FShare_Rsub, kpShare_Rsub⟩ := ok_Share_Rsub (w := w) (base := base) X Gm c
  obtain ⟨_, GShare_Sub, FShare_Sub, kpShare_Sub⟩ := ok_Share_Sub (w := w) (base := base) X Gm c
  have kbLIsShare_3 := FLIsShare.kbp (ps := ["_law_value", "_law_top", "_law_bottom"]) 3 [] [0, 1, 2] (fun _ _ _ _ _ _ us ws h1 h2 => match us, ws, h1, h2 with | [_, _, _], [], _, _ => rfl)
  have kbShare_Add_2 := FShare_Add.kbp (ps := ["self", "other"]) 2 [] [0, 1] (fun _ _ _ _ _ _ us ws h1 h2 => match us, ws, h1, h2 with | [_, _], [], _, _ => rfl)
  have kbShare_Mul_2 := FShare_Mul.kbp (ps := ["self", "other"]) 2 [] [0, 1] (fun _ _ _ _ _ _ us ws h1 h2 => match us, ws, h1, h2 with | [_, _], [], _, _ => rfl)
  have kbShare_Radd_2 := FShare_Radd.kbp (ps := ["self", "other"]) 2 [] [0, 1] (fun _ _ _ _ _ _ us ws h1 h2 => match us, ws, h1, h2 with | [_, _], [], _, _ => rfl)
  have kbShare_Rmul_2 := FShare_Rmul.kbp (ps := ["self", "other"]) 2 [] [0, 1] (fun _ _ _ _ _ _ us ws h1 h2 => match us, ws, h1, h2 with | [_, _], [], _, _ => rfl)
  have kbShare_Rsub_2 := FShare_Rsub.kbp (ps := ["self", "other"]) 2 [] [0, 1] (fun _ _ _ _ _ _ us ws h1 h2 => match us, ws, h1, h2 with | [_, _], [], _, _ => rfl)
  have kbShare_Sub_2 := FShare_Sub.kbp (ps := ["self", "other"]) 2 [] [0, 1] (fun _ _ _ _ _ _ us ws h1 h2 => match us, ws, h1, h2 with | [_, _], [], _, _ => rfl)
  have mg__law_is_share := zg__law_is_share X Gm c
  have clShare := zc_Share c
  have hics := zh_ics X Gm c
  have mShare_Add := He.meth_ok (c.d.fact 19 (f := .meth "Share" "__add__") rfl)
  have mShare_Mul := He.meth_ok (c.d.fact 23 (f := .meth "Share" "__mul__") rfl)
  have mShare_Radd := He.meth_ok (c.d.fact 20 (f := .meth "Share" "__radd__") rfl)
  have mShare_Rmul := He.meth_ok (c.d.fact 24 (f := .meth "Share" "__rmul__") rfl)
  have mShare_Rsub := He.meth_ok (c.d.fact 22 (f := .meth "Share" "__rsub__") rfl)
  have mShare_Sub := He.meth_ok (c.d.fact 21 (f := .meth "Share" "__sub__") rfl)
  exact fn_V (k := 5) (n := 4) (nl := 3) (io := [false, false, false, false]) F scLSums rfl rfl rfl rfl (fun cdv A outer sh H E hr hg => ⟨_, (pss_cons (ps_set (i := 4) scLSums.nd rfl (by trivial) (pe_tupN (pa_cons (pe_op (op_addU (K := K) rfl) (pe_op (op_mulU (K := K) rfl) (pe_ixU (K := K) rfl (un1 hr) (pv 2) pe_int (fun _ _ => rfl) (fun _ _ => rfl)) (pe_ixU (K := K) rfl (un1 hr) (pv 3) pe_int (fun _ _ => rfl) (fun _ _ => rfl))) (pe_op (op_mulU (K := K) rfl) (pe_ixU (K := K) rfl (un1 hr) (pv 3) pe_int (fun _ _ => rfl) (fun _ _ => rfl)) (pe_ixU (K := K) rfl (un1 hr) (pv 2) pe_int (fun _ _ => rfl) (fun _ _ => rfl)))) (pa_cons (pe_op (op_mulU (K := K) rfl) (pe_ixU (K := K) rfl (un1 hr) (pv 2) pe_int (fun _ _ => rfl) (fun _ _ => rfl)) (pe_ixU (K := K) rfl (un1 hr) (pv 3) pe_int (fun _ _ => rfl) (fun _ _ => rfl))) pa_nil))))
  (pss_cons (ps_set (i := 5) scLSums.nd rfl (by trivial) (pe_tupN (pa_cons (pe_op op_sub (pe_op (op_mulU (K := K) rfl) (pe_ixU (K := K) rfl (un1 hr) (pv 2) pe_int (fun _ _ => rfl) (fun _ _ => rfl)) (pe_ixU (K := K) rfl (un1 hr) (pv 3) pe_int (fun _ _ => rfl) (fun _ _ => rfl))) (pe_op (op_mulU (K := K) rfl) (pe_ixU (K := K) rfl (un1 hr) (pv 3) pe_int (fun _ _ => rfl) (fun _ _ => rfl)) (pe_ixU (K := K) rfl (un1 hr) (pv 2) pe_int (fun _ _ => rfl) (fun _ _ => rfl)))) (pa_cons (pe_op (op_mulU (K := K) rfl) (pe_ixU (K := K) rfl (un1 hr) (pv 2) pe_int (fun _ _ => rfl) (fun _ _ => rfl)) (pe_ixU (K := K) rfl (un1 hr) (pv 3) pe_int (fun _ _ => rfl) (fun _ _ => rfl))) pa_nil))))
  (pss_cons (ps_if (PW.pt (pw_or (pt_not (pt_truthK (K := K) rfl (pe_fP GLIsShare (hr.mono (by decide)) (by exact hg) (by rfl) mg__law_is_share kpLIsShare kbLIsShare_3 passF (pa_cons (pe_op (op_orR (op_binOwn (op := .Add) rfl mShare_Add (hics "Share" (by decide)).2.sf GShare_Add (hr.mono (by decide)) (by exact hg) kbShare_Add_2 (fun _ _ => rfl) (fun σ => passC σ)) (op_binInt (op := .Add) rfl rfl ⟨_, rfl⟩ ⟨_, rfl⟩ mShare_Add mShare_Radd (hics "Share" (by decide)).2.sf GShare_Add (hr.mono (by decide)) (by exact hg) kbShare_Add_2 (fun _ _ => rfl) (fun σ => passC σ))) (pv 0) (pv 1)) (pa_cons (pe_ixU (K := K) rfl (un1 hr) (pv 4) pe_int (fun _ _ => rfl) (fun _ _ => rfl)) (pa_cons (pe_ixU (K := K) rfl (un1 hr) (pv 4) pe_int (fun _ _ => rfl) (fun _ _ => rfl)) pa_nil)))) (by intro _; rfl))) (pw_or1 (pt_not (pt_truthK (K := K) rfl (pe_fP GLIsShare (hr.mono (by decide)) (by exact hg) (by rfl) mg__law_is_share kpLIsShare kbLIsShare_3 passF (pa_cons (pe_op (op_orR (op_binOwn (op := .Sub) rfl mShare_Sub (hics "Share" (by decide)).2.sf GShare_Sub (hr.mono (by decide)) (by exact hg) kbShare_Sub_2 (fun _ _ => rfl) (fun σ => passC σ)) (op_binInt (op := .Sub) rfl rfl ⟨_, rfl⟩ ⟨_, rfl⟩ mShare_Sub mShare_Rsub (hics "Share" (by decide)).2.sf GShare_Sub (hr.mono (by decide)) (by exact hg) kbShare_Sub_2 (fun _ _ => rfl) (fun σ => passC σ))) (pv 0) (pv 1)) (pa_cons (pe_ixU (K := K) rfl (un1 hr) (pv 5) pe_int (fun _ _ => rfl) (fun _ _ => rfl)) (pa_cons (pe_ixU (K := K) rfl (un1 hr) (pv 5) pe_int (fun _ _ => rfl) (fun _ _ => rfl)) pa_nil)))) (by intro _; rfl))))))
  (pss_one (ps_ret pe_bl)) pss_nil)
  (pss_cons (ps_if (PW.pt (pw_or (pt_not (pt_truthK (K := K) rfl (pe_fP GLIsShare (hr.mono (by decide)) (by exact hg) (by rfl) mg__law_is_share kpLIsShare kbLIsShare_3 passF (pa_cons (pe_op (op_orR (op_binOwn (op := .Add) rfl mShare_Add (hics "Share" (by decide)).2.sf GShare_Add (hr.mono (by decide)) (by exact hg) kbShare_Add_2 (fun _ _ => rfl) (fun σ => passC σ)) (op_rOwn (op := .Add) rfl rfl PySem.F.fills_int_add mShare_Add mShare_Radd (hics "Share" (by decide)).2.sf ((hics "Share" (by decide)).2.ty "int" (by decide)) (fun s l dx E A ho => dec_add ho) GShare_Radd (hr.mono (by decide)) (by exact hg) kbShare_Radd_2 (fun _ _ => rfl) (fun σ => passC σ))) (pv 1) (pv 0)) (pa_cons (pe_ixU (K := K) rfl (un1 hr) (pv 4) pe_int (fun _ _ => rfl) (fun _ _ => rfl)) (pa_cons (pe_ixU (K := K) rfl (un1 hr) (pv 4) pe_int (fun _ _ => rfl) (fun _ _ => rfl)) pa_nil)))) (by intro _; rfl))) (pw_or1 (pt_not (pt_truthK (K := K) rfl (pe_fP GLIsShare (hr.mono (by decide)) (by exact hg) (by rfl) mg__law_is_share kpLIsShare kbLIsShare_3 passF (pa_cons (pe_op (op_orR (op_binOwn (op := .Sub) rfl mShare_Sub (hics "Share" (by decide)).2.sf GShare_Sub (hr.mono (by decide)) (by exact hg) kbShare_Sub_2 (fun _ _ => rfl) (fun σ => passC σ)) (op_rOwn (op := .Sub) rfl rfl PySem.F.fills_int_sub mShare_Sub mShare_Rsub (hics "Share" (by decide)).2.sf ((hics "Share" (by decide)).2.ty "int" (by decide)) (fun s l dx E A ho => dec_sub ho) GShare_Rsub (hr.mono (by decide)) (by exact hg) kbShare_Rsub_2 (fun _ _ => rfl) (fun σ => passC σ))) (pv 1) (pv 0)) (pa_cons (pe_un un_neg (pe_ixU (K := K) rfl (un1 hr) (pv 5) pe_int (fun _ _ => rfl) (fun _ _ => rfl))) (pa_cons (pe_ixU (K := K) rfl (un1 hr) (pv 5) pe_int (fun _ _ => rfl) (fun _ _ => rfl)) pa_nil)))) (by intro _; rfl))))))
  (pss_one (ps_ret pe_bl)) pss_nil)
  (pss_cons (ps_set (i := 6) scLSums.nd rfl (by trivial) (pe_tupN (pa_cons (pe_op (op_mulU (K := K) rfl) (pe_ixU (K := K) rfl (un1 hr) (pv 2) pe_int (fun _ _ => rfl) (fun _ _ => rfl)) (pe_ixU (K := K) rfl (un1 hr) (pv 3) pe_int (fun _ _ => rfl) (fun _ _ => rfl))) (pa_cons (pe_op (op_mulU (K := K) rfl) (pe_ixU (K := K) rfl (un1 hr) (pv 2) pe_int (fun _ _ => rfl) (fun _ _ => rfl)) (pe_ixU (K := K) rfl (un1 hr) (pv 3) pe_int (fun _ _ => rfl) (fun _ _ => rfl))) pa_nil))))
  (pss_cons (ps_if (pt_not (pt_truthK (K := K) rfl (pe_fP GLIsShare (hr.mono (by decide)) (by exact hg) (by rfl) mg__law_is_share kpLIsShare kbLIsShare_3 passF (pa_cons (pe_op (op_orR (op_binOwn (op := .Mult) rfl mShare_Mul (hics "Share" (by decide)).2.sf GShare_Mul (hr.mono (by decide)) (by exact hg) kbShare_Mul_2 (fun _ _ => rfl) (fun σ => passC σ)) (op_binInt (op := .Mult) rfl rfl ⟨_, rfl⟩ ⟨_, rfl⟩ mShare_Mul mShare_Rmul (hics "Share" (by decide)).2.sf GShare_Mul (hr.mono (by decide)) (by exact hg) kbShare_Mul_2 (fun _ _ => rfl) (fun σ => passC σ))) (pv 0) (pv 1)) (pa_cons (pe_ixU (K := K) rfl (un1 hr) (pv 6) pe_int (fun _ _ => rfl) (fun _ _ => rfl)) (pa_cons (pe_ixU (K := K) rfl (un1 hr) (pv 6) pe_int (fun _ _ => rfl) (fun _ _ => rfl)) pa_nil)))) (by intro _; rfl)))
  (pss_one (ps_ret pe_bl)) pss_nil)
  (pss_one (ps_ret (pe_fP GLIsShare (hr.mono (by decide)) (by exact hg) (by rfl) mg__law_is_share kpLIsShare kbLIsShare_3 passF (pa_cons (pe_op (op_orR (op_binOwn (op := .Mult) rfl mShare_Mul (hics "Share" (by decide)).2.sf GShare_Mul (hr.mono (by decide)) (by exact hg) kbShare_Mul_2 (fun _ _ => rfl) (fun σ => passC σ)) (op_rOwn (op := .Mult) rfl rfl PySem.F.fills_int_mul mShare_Mul mShare_Rmul (hics "Share" (by decide)).2.sf ((hics "Share" (by decide)).2.ty "int" (by decide)) (fun s l dx E A ho => dec_mul ho) GShare_Rmul (hr.mono (by decide)) (by exact hg) kbShare_Rmul_2 (fun _ _ => rfl) (fun σ => passC σ))) (pv 1) (pv 0)) (pa_cons (pe_ixU (K := K) rfl (un1 hr) (pv 6) pe_int (fun _ _ => rfl) (fun _ _ => rfl)) (pa_cons (pe_ixU (K := K) rfl (un1 hr) (pv 6) pe_int (fun _ _ => rfl) (fun _ _ => rfl)) pa_nil)))))))))))), (snds_seq (snds_asg (snd_tup (snd_cons (snd_op2 (cbs_mk mk_add) (snd_op2 (cbs_mk mk_mulU) (snd_ix snd_var snd_int) (snd_ix snd_var snd_int)) (snd_op2 (cbs_mk mk_mulU) (snd_ix snd_var snd_int) (snd_ix snd_var snd_int))) (snd_cons (snd_op2 (cbs_mk mk_mulU) (snd_ix snd_var snd_int) (snd_ix snd_var snd_int)) snd_nil))) sgN)
  (snds_seq (snds_asg (snd_tup (snd_cons (snd_op2 (cbs_rd rd_sub) (snd_op2 (cbs_mk mk_mulU) (snd_ix snd_var snd_int) (snd_ix snd_var snd_int)) (snd_op2 (cbs_mk mk_mulU) (snd_ix snd_var snd_int) (snd_ix snd_var snd_int))) (snd_cons (snd_op2 (cbs_mk mk_mulU) (snd_ix snd_var snd_int) (snd_ix snd_var snd_int)) snd_nil))) sgN)
  (snds_seq (snds_if (snd_orT (snd_notT (snd_tru (snd_call rfl (snd_cons (snd_op2 (cbs_ownA (c := "Share") rfl) snd_var snd_var) (snd_cons (snd_ix snd_var snd_int) (snd_cons (snd_ix snd_var snd_int) snd_nil)))))) (snd_notT (snd_tru (snd_call rfl (snd_cons (snd_op2 (cbs_ownA (c := "Share") rfl) snd_var snd_var) (snd_cons (snd_ix snd_var snd_int) (snd_cons (snd_ix snd_var snd_int) snd_nil)))))))
  (snds_ret snd_bl) snds_skip)
  (snds_seq (snds_if (snd_orT (snd_notT (snd_tru (snd_call rfl (snd_cons (snd_op2 (cbs_ownR (c := "Share") rfl rfl) snd_var snd_var) (snd_cons (snd_ix snd_var snd_int) (snd_cons (snd_ix snd_var snd_int) snd_nil)))))) (snd_notT (snd_tru (snd_call rfl (snd_cons (snd_op2 (cbs_ownR (c := "Share") rfl rfl) snd_var snd_var) (snd_cons (snd_op1 (cbs_rd rd_neg) (snd_ix snd_var snd_int)) (snd_cons (snd_ix snd_var snd_int) snd_nil)))))))
  (snds_ret snd_bl) snds_skip)
  (snds_seq (snds_asg (snd_tup (snd_cons (snd_op2 (cbs_mk mk_mulU) (snd_ix snd_var snd_int) (snd_ix snd_var snd_int)) (snd_cons (snd_op2 (cbs_mk mk_mulU) (snd_ix snd_var snd_int) (snd_ix snd_var snd_int)) snd_nil))) sgN)
  (snds_seq (snds_if (snd_notT (snd_tru (snd_call rfl (snd_cons (snd_op2 (cbs_ownA (c := "Share") rfl) snd_var snd_var) (snd_cons (snd_ix snd_var snd_int) (snd_cons (snd_ix snd_var snd_int) snd_nil))))))
  (snds_ret snd_bl) snds_skip)
  (snds_ret (snd_call rfl (snd_cons (snd_op2 (cbs_ownR (c := "Share") rfl rfl) snd_var snd_var) (snd_cons (snd_ix snd_var snd_int) (snd_cons (snd_ix snd_var snd_int) snd_nil)))))))))))⟩)
theorem ok_Share_Below : OkD w K mg base 1 (He.ma K (He.ga K "Share") "below") dShare_Below ["self", "x"] (spV K 2 F_Share_Below) := by
  obtain ⟨fd, F⟩ := c.d.def_ 11 (d := dShare_Below) rfl
  refine ⟨fd, ?_, F, F.kp⟩
  have mg_Share := zg_Share X Gm c
  have mg_isinstance := zg_isinstance X Gm c
  have clShare := zc_Share c
  have hics := zh_ics X Gm c
  have hf_bottom := zhf_bottom X Gm c
  have hf_top := zhf_top X Gm c
  exact fn_V (k := 0) (n := 2) (nl := 0) (io := [false, false]) F scShare_Below rfl rfl rfl rfl (fun cdv A outer sh H E hr hg => ⟨_, (pss_cons (ps_if (pt_truthK (K := K) rfl (pe_callB (call_isiK' (K := K) rfl) (by rfl) mg_isinstance (by decide +kernel) (pa_cons (pv 1) (pa_cons (pe_glob (v := .ref (He.ga K "Share")) (by rfl) mg_Share rfl) pa_nil))) (by intro _; rfl))
  (pss_one (ps_ret (pe_cmpR (op_ltU (K := K) rfl (un0 hr)) (pe_op (op_mulU (K := K) rfl) (pe_fldK (K := K) rfl (pv 0) rfl) (pe_fldK (K := K) rfl (pv 1) rfl)) (pe_op (op_mulU (K := K) rfl) (pe_fldK (K := K) rfl (pv 1) rfl) (pe_fldK (K := K) rfl (pv 0) rfl)) (nomark _)))) pss_nil)
  (pss_one (ps_ret (pe_cmpR (op_ltU (K := K) rfl (un0 hr)) (pe_fldK (K := K) rfl (pv 0) rfl) (pe_op (op_mulU (K := K) rfl) (pv 1) (pe_fldK (K := K) rfl (pv 0) rfl)) (nomark _))))), (snds_seq (snds_if (snd_tru (snd_cb (snd_cons snd_var (snd_cons snd_glo snd_nil)) (cbs_rd (rd_isi hics))))
  (snds_ret (snd_op2 (cbs_rd rd_lt) (snd_op2 (cbs_mk mk_mulU) (snd_attr hf_top snd_var) (snd_attr hf_bottom snd_var)) (snd_op2 (cbs_mk mk_mulU) (snd_attr hf_top snd_var) (snd_attr hf_bottom snd_var)))) snds_skip)
  (snds_ret (snd_op2 (cbs_rd rd_lt) (snd_attr hf_top snd_var) (snd_op2 (cbs_mk mk_mulU) snd_var (snd_attr hf_bottom snd_var)))))⟩)
theorem ok_Share_Eq : OkD w K mg base 1 (He.ma K (He.ga K "Share") "__eq__") dShare_Eq ["self", "other"] (spV K 2 F_Share_Eq) := by
  obtain ⟨fd, F⟩ := c.d.def_ 3 (d := dShare_Eq) rfl
  refine ⟨fd, ?_, F, F.kp⟩
  have mg_Share := zg_Share X Gm c
  have mg_isinstance := zg_isinstance X Gm c
  have clShare := zc_Share c
  have hics := zh_ics X Gm c
  have hf_bottom := zhf_bottom X Gm c
  have hf_top := zhf_top X Gm c
  exact fn_V (k := 0) (n := 2) (nl := 0) (io := [false, false]) F scShare_Eq rfl rfl rfl rfl (fun cdv A outer sh H E hr hg => ⟨_, (pss_one (ps_ret (pe_and (pe_callB (call_isiK' (K := K) rfl) (by rfl) mg_isinstance (by decide +kernel) (pa_cons (pv 1) (pa_cons (pe_glob (v := .ref (He.ga K "Share")) (by rfl) mg_Share rfl) pa_nil))) (pe_and (pe_cmpR (op_eqU (K := K) rfl (un64 hr)) (pe_fldK (K := K) rfl (pv 0) rfl) (pe_fldK (K := K) rfl (pv 1) rfl) (nomark _)) (pe_one (pe_cmpR (op_eqU (K := K) rfl (un64 hr)) (pe_fldK (K := K) rfl (pv 0) rfl) (pe_fldK (K := K) rfl (pv 1) rfl) (nomark _))))))), (snds_ret (snd_andV (snd_cb (snd_cons snd_var (snd_cons snd_glo snd_nil)) (cbs_rd (rd_isi hics))) (snd_andV (snd_op2 (cbs_rd rd_eq) (snd_attr hf_top snd_var) (snd_attr hf_top snd_var)) (snd_op2 (cbs_rd rd_eq) (snd_attr hf_bottom snd_var) (snd_attr hf_bottom snd_var)))))⟩)
end
theorem ok_Law {w : World} {K : PySem.W.Frag} {h : Heap} {mg : Str → Option Value} {base : Heap} {fd : FuncData} (F : FunD K dLaw.name dLaw.qual dLaw.params dLaw.body dLaw.scope (He.DefD.dvs K dLaw) (He.DefD.kws K dLaw) (He.fAd K dLaw.at_) fd) (X : K.In h) (Gm : h.Ns mainGlobals mg) (c : Says K) : FnG PP w K mg base (L2.CX PP w) 7 (He.ga K "law") fd ["_law_script"] (spV K 1 F_Law) := by
  obtain ⟨_, GLCell, FLCell, kpLCell⟩ := ok_LCell (w := w) (base := base) X Gm c
  obtain ⟨_, GLIsShare, FLIsShare, kpLIsShare⟩ := ok_LIsShare (w := w) (base := base) X Gm c
  obtain ⟨_, GLNumber, FLNumber, kpLNumber⟩ := ok_LNumber (w := w) (base := base) X Gm c
  obtain ⟨_, GLState, FLState, kpLState⟩ := ok_LState (w := w) (base := base) X Gm c
  obtain ⟨_, GLSums, FLSums, kpLSums⟩ := ok_LSums (w := w) (base := base) X Gm c
  obtain ⟨_, GShare_Below, FShare_Below, kpShare_Below⟩ := ok_Share_Below (w := w) (base := base) X Gm c
  obtain ⟨_, GShare_Eq, FShare_Eq, kpShare_Eq⟩ := ok_Share_Eq (w := w) (base := base) X Gm c
  obtain ⟨_, GShare_Init, FShare_Init, kpShare_Init⟩ := ok_Share_Init (w := w) (base := base) X Gm c
  obtain ⟨_, GShare_Neg, FShare_Neg, kpShare_Neg⟩ := ok_Share_Neg (w := w) (base := base) X Gm c
  have kbLCell_2 := FLCell.kbp (ps := ["_law_script", "_law_at"]) 2 [] [0, 1] (fun _ _ _ _ _ _ us ws h1 h2 => match us, ws, h1, h2 with | [_, _], [], _, _ => rfl)
  have kbLIsShare_3 := FLIsShare.kbp (ps := ["_law_value", "_law_top", "_law_bottom"]) 3 [] [0, 1, 2] (fun _ _ _ _ _ _ us ws h1 h2 => match us, ws, h1, h2 with | [_, _, _], [], _, _ => rfl)
  have kbLNumber_1 := FLNumber.kbp (ps := ["_law_state_here"]) 1 [] [0] (fun _ _ _ _ _ _ us ws h1 h2 => match us, ws, h1, h2 with | [_], [], _, _ => rfl)
  have kbLState_1 := FLState.kbp (ps := ["_law_cell_here"]) 1 [] [0] (fun _ _ _ _ _ _ us ws h1 h2 => match us, ws, h1, h2 with | [_], [], _, _ => rfl)
  have kbLSums_4 := FLSums.kbp (ps := ["_law_share", "_law_other", "_law_one", "_law_two"]) 4 [] [0, 1, 2, 3] (fun _ _ _ _ _ _ us ws h1 h2 => match us, ws, h1, h2 with | [_, _, _, _], [], _, _ => rfl)
  have kbShare_Below_1_x := FShare_Below.kbp (ps := ["self", "x"]) 1 ["x"] [0, 1] (fun _ _ _ _ _ _ us ws h1 h2 => match us, ws, h1, h2 with | [_], [_], _, _ => rfl)
  have kbShare_Below_2 := FShare_Below.kbp (ps := ["self", "x"]) 2 [] [0, 1] (fun _ _ _ _ _ _ us ws h1 h2 => match us, ws, h1, h2 with | [_, _], [], _, _ => rfl)
  have kbShare_Eq_2 := FShare_Eq.kbp (ps := ["self", "other"]) 2 [] [0, 1] (fun _ _ _ _ _ _ us ws h1 h2 => match us, ws, h1, h2 with | [_, _], [], _, _ => rfl)
  obtain ⟨itskbShare_Init_1_top_bottom, kbShare_Init_1_top_bottom⟩ := FShare_Init.kbd (ps := ["self", "top", "bottom"]) 1 ["top", "bottom"] [0, 2, 3] (List.cons_ne_nil _ _) (fun _ _ _ _ _ _ _ us its ws h1 h2 h3 => match us, its, ws, h1, h2, h3 with | [_], [_], [_, _], _, _, _ => ⟨_, rfl, rfl⟩)
  obtain ⟨itskbShare_Init_2, kbShare_Init_2⟩ := FShare_Init.kbd (ps := ["self", "top", "bottom"]) 2 [] [0, 1, 2] (List.cons_ne_nil _ _) (fun _ _ _ _ _ _ _ us its ws h1 h2 h3 => match us, its, ws, h1, h2, h3 with | [_, _], [_], [], _, _, _ => ⟨_, rfl, rfl⟩)
  obtain ⟨itskbShare_Init_3, kbShare_Init_3⟩ := FShare_Init.kbd (ps := ["self", "top", "bottom"]) 3 [] [0, 1, 2] (List.cons_ne_nil _ _) (fun _ _ _ _ _ _ _ us its ws h1 h2 h3 => match us, its, ws, h1, h2, h3 with | [_, _, _], [_], [], _, _, _ => ⟨_, rfl, rfl⟩)
  have kbShare_Neg_1 := FShare_Neg.kbp (ps := ["self"]) 1 [] [0] (fun _ _ _ _ _ _ us ws h1 h2 => match us, ws, h1, h2 with | [_], [], _, _ => rfl)
  have mg_Share := zg_Share X Gm c
  have mg__law_cell := zg__law_cell X Gm c
  have mg__law_is_share := zg__law_is_share X Gm c
  have mg__law_number := zg__law_number X Gm c
  have mg__law_state := zg__law_state X Gm c
  have mg__law_sums := zg__law_sums X Gm c
  have mg_len := zg_len X Gm c
  have mg_range := zg_range X Gm c
  have clShare := zc_Share c
  have mShare_Below := He.meth_ok (c.d.fact 25 (f := .meth "Share" "below") rfl)
  have mShare_Eq := He.meth_ok (c.d.fact 17 (f := .meth "Share" "__eq__") rfl)
  have mShare_Neg := He.meth_ok (c.d.fact 18 (f := .meth "Share" "__neg__") rfl)
  have mkShare := He.mkr_ok (c.d.fact 16 (f := .mkr "Share") rfl)
  exact fn_V (k := 6) (n := 1) (nl := 13) (io := [false]) F scLaw rfl rfl rfl rfl (fun cdv A outer sh H E hr hg => ⟨_, (pss_cons (ps_for (passes_of rfl) rfl (pi_range1 (by rfl) mg_range (pa_cons (pe_op (op_addU (K := K) rfl) pe_int (pe_callB (call_lenU (K := K) rfl) (by rfl) mg_len (by decide +kernel) (pa_cons (pe_slice (sl_U (K := K) rfl) (pv 0) po_none (po_some pe_int)) pa_nil))) pa_nil)) (pg_name (i := 1) scLaw.nd rfl (by trivial))
  (pss_cons (ps_set (i := 2) scLaw.nd rfl (by trivial) (pe_fP GLState (hr.mono (by decide)) (by exact hg) (by rfl) mg__law_state kpLState kbLState_1 passF (pa_cons (pe_fP GLCell (hr.mono (by decide)) (by exact hg) (by rfl) mg__law_cell kpLCell kbLCell_2 passF (pa_cons (pv 0) (pa_cons (pv 1) pa_nil))) pa_nil)))
  (pss_cons (ps_setLc (i := 3) (own := [("_law_turn", 5)]) (g := gName 5) (by rfl) scLaw.nd rfl rfl (sw_true rfl rfl rfl (by decide +kernel)) (pi_range1 (by rfl) mg_range (pa_cons pe_int pa_nil)) (blkOk_by (own := [("_law_turn", 5)]) (N := ["_law_script", "_law_at", "_law_state_here", "_law_tops", "_law_bottoms", "_law_turn", "_law_number_here", "_law_share", "_law_other", "_law_one", "_law_two", "_law_sign", "_law_apart", "_law_strange"]) (sc := defScope sLaw) (by decide +kernel)) (fun _ _ _ _ _ => by exact (pg_name (i := 5) scLaw.nd rfl (by trivial))) (fun _ _ _ _ _ => by exact pts_nil) (fun _ _ _ _ _ => by exact (pe_fP GLNumber (hr.mono (by decide)) (by exact hg) (by rfl) mg__law_number kpLNumber kbLNumber_1 passC (pa_cons (pv 2) pa_nil))))
  (pss_cons (ps_set (i := 4) scLaw.nd rfl (by trivial) (pe_lst pa_nil))
  (pss_cons (ps_for (passes_of rfl) rfl (pi_range1 (by rfl) mg_range (pa_cons pe_int pa_nil)) (pg_name (i := 5) scLaw.nd rfl (by trivial))
  (pss_cons (ps_set (i := 6) scLaw.nd rfl (by trivial) (pe_fP GLNumber (hr.mono (by decide)) (by exact hg) (by rfl) mg__law_number kpLNumber kbLNumber_1 passF (pa_cons (pv 2) pa_nil)))
  (pss_one (ps_expr (pe_bmK (K := K) rfl PySem.F.plainAttrs_list PySem.F.slot_list_append PySem.F.type_list_append mt_append (pv 4) (pa_cons (pe_ifExp (pt_cmpR (op_neU (K := K) rfl (un64 hr)) (pv 6) pe_int (nomark _)) (pv 6) pe_int) pa_nil))))))
  (pss_cons (ps_set (i := 7) scLaw.nd rfl (by trivial) (pe_cP mkShare GShare_Init (hr.mono (by decide)) (by exact hg) (by rfl) mg_Share kbShare_Init_3 passF (pa_cons (pe_ixU (K := K) rfl (un1 hr) (pv 3) pe_int (fun _ _ => rfl) (fun _ _ => rfl)) (pa_cons (pe_ixU (K := K) rfl (un1 hr) (pv 4) pe_int (fun _ _ => rfl) (fun _ _ => rfl)) pa_nil))))
  (pss_cons (ps_set (i := 8) scLaw.nd rfl (by trivial) (pe_cK (ks := ["top", "bottom"]) mkShare GShare_Init (hr.mono (by decide)) (by exact hg) (by rfl) mg_Share kbShare_Init_1_top_bottom passF (pk_cons (pe_ixU (K := K) rfl (un1 hr) (pv 3) pe_int (fun _ _ => rfl) (fun _ _ => rfl)) (pk_cons (pe_ixU (K := K) rfl (un1 hr) (pv 4) pe_int (fun _ _ => rfl) (fun _ _ => rfl)) pk_nil))))
  (pss_cons (ps_set (i := 9) scLaw.nd rfl (by trivial) (pe_tupN (pa_cons (pe_ixU (K := K) rfl (un1 hr) (pv 3) pe_int (fun _ _ => rfl) (fun _ _ => rfl)) (pa_cons (pe_ixU (K := K) rfl (un1 hr) (pv 4) pe_int (fun _ _ => rfl) (fun _ _ => rfl)) pa_nil))))
  (pss_cons (ps_set (i := 10) scLaw.nd rfl (by trivial) (pe_tupN (pa_cons (pe_ixU (K := K) rfl (un1 hr) (pv 3) pe_int (fun _ _ => rfl) (fun _ _ => rfl)) (pa_cons (pe_ixU (K := K) rfl (un1 hr) (pv 4) pe_int (fun _ _ => rfl) (fun _ _ => rfl)) pa_nil))))
  (pss_cons (ps_if (PW.pt (pw_or (pt_not (pt_truthK (K := K) rfl (pe_fP GLIsShare (hr.mono (by decide)) (by exact hg) (by rfl) mg__law_is_share kpLIsShare kbLIsShare_3 passF (pa_cons (pv 7) (pa_cons (pe_ixU (K := K) rfl (un1 hr) (pv 9) pe_int (fun _ _ => rfl) (fun _ _ => rfl)) (pa_cons (pe_ixU (K := K) rfl (un1 hr) (pv 9) pe_int (fun _ _ => rfl) (fun _ _ => rfl)) pa_nil)))) (by intro _; rfl))) (pw_or1 (pt_not (pt_truthK (K := K) rfl (pe_fP GLIsShare (hr.mono (by decide)) (by exact hg) (by rfl) mg__law_is_share kpLIsShare kbLIsShare_3 passF (pa_cons (pe_un (un_negOwn mShare_Neg GShare_Neg (hr.mono (by decide)) (by exact hg) kbShare_Neg_1 (fun _ => rfl) (fun σ => passC σ)) (pv 7)) (pa_cons (pe_un un_neg (pe_ixU (K := K) rfl (un1 hr) (pv 9) pe_int (fun _ _ => rfl) (fun _ _ => rfl))) (pa_cons (pe_ixU (K := K) rfl (un1 hr) (pv 9) pe_int (fun _ _ => rfl) (fun _ _ => rfl)) pa_nil)))) (by intro _; rfl))))))
  (pss_one (ps_ret pe_bl)) pss_nil)
  (pss_cons (ps_if (PW.pt (pw_or (pt_not (pt_truthK (K := K) rfl (pe_fP GLSums (hr.mono (by decide)) (by exact hg) (by rfl) mg__law_sums kpLSums kbLSums_4 passF (pa_cons (pv 7) (pa_cons (pv 8) (pa_cons (pv 9) (pa_cons (pv 10) pa_nil))))) (by intro _; rfl))) (pw_or1 (pt_not (pt_truthK (K := K) rfl (pe_fP GLSums (hr.mono (by decide)) (by exact hg) (by rfl) mg__law_sums kpLSums kbLSums_4 passF (pa_cons (pv 7) (pa_cons (pe_ixU (K := K) rfl (un1 hr) (pv 3) pe_int (fun _ _ => rfl) (fun _ _ => rfl)) (pa_cons (pv 9) (pa_cons (pe_tupN (pa_cons (pe_ixU (K := K) rfl (un1 hr) (pv 3) pe_int (fun _ _ => rfl) (fun _ _ => rfl)) (pa_cons pe_int pa_nil))) pa_nil))))) (by intro _; rfl))))))
  (pss_one (ps_ret pe_bl)) pss_nil)
  (pss_cons (ps_if (pt_not (pt_truthK (K := K) rfl (pe_fP GLIsShare (hr.mono (by decide)) (by exact hg) (by rfl) mg__law_is_share kpLIsShare kbLIsShare_3 passF (pa_cons (pe_cP mkShare GShare_Init (hr.mono (by decide)) (by exact hg) (by rfl) mg_Share kbShare_Init_2 passF (pa_cons (pe_ixU (K := K) rfl (un1 hr) (pv 3) pe_int (fun _ _ => rfl) (fun _ _ => rfl)) pa_nil)) (pa_cons (pe_ixU (K := K) rfl (un1 hr) (pv 3) pe_int (fun _ _ => rfl) (fun _ _ => rfl)) (pa_cons pe_int pa_nil)))) (by intro _; rfl)))
  (pss_one (ps_ret pe_bl)) pss_nil)
  (pss_cons (ps_set (i := 11) scLaw.nd rfl (by trivial) (pe_ifExp (pt_cmpR op_gtU (pe_op (op_mulU (K := K) rfl) (pe_ixU (K := K) rfl (un1 hr) (pv 4) pe_int (fun _ _ => rfl) (fun _ _ => rfl)) (pe_ixU (K := K) rfl (un1 hr) (pv 4) pe_int (fun _ _ => rfl) (fun _ _ => rfl))) pe_int (nomark _)) pe_int (pe_un un_neg pe_int)))
  (pss_cons (ps_set (i := 12) scLaw.nd rfl (by trivial) (pe_op (op_mulU (K := K) rfl) (pe_op op_sub (pe_op (op_mulU (K := K) rfl) (pe_ixU (K := K) rfl (un1 hr) (pv 9) pe_int (fun _ _ => rfl) (fun _ _ => rfl)) (pe_ixU (K := K) rfl (un1 hr) (pv 10) pe_int (fun _ _ => rfl) (fun _ _ => rfl))) (pe_op (op_mulU (K := K) rfl) (pe_ixU (K := K) rfl (un1 hr) (pv 10) pe_int (fun _ _ => rfl) (fun _ _ => rfl)) (pe_ixU (K := K) rfl (un1 hr) (pv 9) pe_int (fun _ _ => rfl) (fun _ _ => rfl)))) (pv 11)))
  (pss_cons (ps_if (PW.pt (pw_or (pt_cmpR (op_neU (K := K) rfl (un64 hr)) (pe_cmpR (op_eqOwn mShare_Eq GShare_Eq (hr.mono (by decide)) (by exact hg) kbShare_Eq_2 (fun _ _ => rfl) (fun σ => passC σ)) (pv 7) (pv 8) (nomark _)) (pe_cmpR (op_eqU (K := K) rfl (un64 hr)) (pv 12) pe_int (nomark _)) (nomark _)) (pw_or (pt_cmpR (op_neU (K := K) rfl (un64 hr)) (pe_nP (pv 7) clShare mShare_Below GShare_Below (hr.mono (by decide)) (by exact hg) kbShare_Below_2 passF (pa_cons (pv 8) pa_nil)) (pe_cmpR (op_ltU (K := K) rfl (un0 hr)) (pv 12) pe_int (nomark _)) (nomark _)) (pw_or1 (pt_cmpR (op_neU (K := K) rfl (un64 hr)) (pe_nP (pv 8) clShare mShare_Below GShare_Below (hr.mono (by decide)) (by exact hg) kbShare_Below_2 passF (pa_cons (pv 7) pa_nil)) (pe_cmpR op_gtU (pv 12) pe_int (nomark _)) (nomark _))))))
  (pss_one (ps_ret pe_bl)) pss_nil)
  (pss_cons (ps_set (i := 11) scLaw.nd rfl (by trivial) (pe_ifExp (pt_cmpR op_gtU (pe_ixU (K := K) rfl (un1 hr) (pv 4) pe_int (fun _ _ => rfl) (fun _ _ => rfl)) pe_int (nomark _)) pe_int (pe_un un_neg pe_int)))
  (pss_cons (ps_if (pt_cmpR (op_neU (K := K) rfl (un64 hr)) (pe_nP (pv 7) clShare mShare_Below GShare_Below (hr.mono (by decide)) (by exact hg) kbShare_Below_2 passF (pa_cons (pe_ixU (K := K) rfl (un1 hr) (pv 3) pe_int (fun _ _ => rfl) (fun _ _ => rfl)) pa_nil)) (pe_cmpR (op_ltU (K := K) rfl (un0 hr)) (pe_op (op_mulU (K := K) rfl) (pe_op op_sub (pe_ixU (K := K) rfl (un1 hr) (pv 9) pe_int (fun _ _ => rfl) (fun _ _ => rfl)) (pe_op (op_mulU (K := K) rfl) (pe_ixU (K := K) rfl (un1 hr) (pv 3) pe_int (fun _ _ => rfl) (fun _ _ => rfl)) (pe_ixU (K := K) rfl (un1 hr) (pv 9) pe_int (fun _ _ => rfl) (fun _ _ => rfl)))) (pv 11)) pe_int (nomark _)) (nomark _))
  (pss_one (ps_ret pe_bl)) pss_nil)
  (pss_one (ps_for (passes_of rfl) rfl (pi_seq (K := K) rfl (pe_lst (pa_cons (pe_ixU (K := K) rfl (un1 hr) (pv 3) pe_int (fun _ _ => rfl) (fun _ _ => rfl)) (pa_cons pe_non (pa_cons pe_str (pa_cons (pe_tupN (pa_cons (pe_ixU (K := K) rfl (un1 hr) (pv 9) pe_int (fun _ _ => rfl) (fun _ _ => rfl)) (pa_cons (pe_ixU (K := K) rfl (un1 hr) (pv 9) pe_int (fun _ _ => rfl) (fun _ _ => rfl)) pa_nil))) (pa_cons pe_bl pa_nil))))))) (pg_name (i := 13) scLaw.nd rfl (by trivial))
  (pss_one (ps_if (pt_cmpR (op_orR (op_eqOwn mShare_Eq GShare_Eq (hr.mono (by decide)) (by exact hg) kbShare_Eq_2 (fun _ _ => rfl) (fun σ => passC σ)) (op_eqPlain mShare_Eq GShare_Eq (hr.mono (by decide)) (by exact hg) kbShare_Eq_2 (fun _ _ => rfl) (fun σ => passC σ))) (pv 7) (pv 13) (nomark _))
  (pss_one (ps_ret pe_bl)) pss_nil)))))))))))))))))))))
  (pss_cons (ps_if (pt_cmpR (op_neU (K := K) rfl (un64 hr)) (pe_nK (ks := ["x"]) (pv 7) clShare mShare_Below GShare_Below (hr.mono (by decide)) (by exact hg) kbShare_Below_1_x passF (pk_cons (pv 8) pk_nil)) (pe_nP (pv 7) clShare mShare_Below GShare_Below (hr.mono (by decide)) (by exact hg) kbShare_Below_2 passF (pa_cons (pv 8) pa_nil)) (nomark _))
  (pss_one (ps_ret pe_bl)) pss_nil)
  (pss_one (ps_ret (pe_and (pe_cmpR (op_eqOwn mShare_Eq GShare_Eq (hr.mono (by decide)) (by exact hg) kbShare_Eq_2 (fun _ _ => rfl) (fun σ => passC σ)) (pe_cP mkShare GShare_Init (hr.mono (by decide)) (by exact hg) (by rfl) mg_Share kbShare_Init_3 passF (pa_cons (pe_op (op_mulU (K := K) rfl) (pe_ixU (K := K) rfl (un1 hr) (pv 3) pe_int (fun _ _ => rfl) (fun _ _ => rfl)) pe_int) (pa_cons (pe_op (op_mulU (K := K) rfl) (pe_ixU (K := K) rfl (un1 hr) (pv 4) pe_int (fun _ _ => rfl) (fun _ _ => rfl)) pe_int) pa_nil))) (pv 7) (nomark _)) (pe_one (pe_cmpR op_isTF (pe_nP (pv 7) clShare mShare_Below GShare_Below (hr.mono (by decide)) (by exact hg) kbShare_Below_2 passF (pa_cons (pv 7) pa_nil)) pe_bl (nomark _)))))))), (snds_seq (snds_for (snd_rng1 (snd_cons (snd_op2 (cbs_mk mk_add) snd_int (snd_cb (snd_cons (snd_sl snd_var snd_noPart (snd_part snd_int)) snd_nil) (cbs_rd rd_len))) snd_nil)) sgN
  (snds_seq (snds_asg (snd_call rfl (snd_cons (snd_call rfl (snd_cons snd_var (snd_cons snd_var snd_nil))) snd_nil)) sgN)
  (snds_seq (snds_asg (snd_lc (N := 14) (W' := WN) (by decide) (snd_rng1 (snd_cons snd_int snd_nil)) sgN snd_yes (snd_call rfl (snd_cons snd_var snd_nil))) sgN)
  (snds_seq (snds_asg (snd_lst snd_nil) sgN)
  (snds_seq (snds_for (snd_rng1 (snd_cons snd_int snd_nil)) sgN
  (snds_seq (snds_asg (snd_call rfl (snd_cons snd_var snd_nil)) sgN)
  (snds_drop (snd_append snd_var (snd_cons (snd_if (snd_test (snd_op2 (cbs_rd rd_ne) snd_var snd_int)) snd_var snd_int) snd_nil)))))
  (snds_seq (snds_asg (snd_makeK (c := "Share") (idx := [0, 1]) (dds := [(.int 1)]) rfl (fun _ => (.cons (.int _) .nil)) (snd_cons (snd_ix snd_var snd_int) (snd_cons (snd_ix snd_var snd_int) snd_nil)) snd_nil) sgN)
  (snds_seq (snds_asg (snd_makeK (c := "Share") (idx := [1, 2]) (dds := [(.int 1)]) rfl (fun _ => (.cons (.int _) .nil)) snd_nil (snd_cons (snd_ix snd_var snd_int) (snd_cons (snd_ix snd_var snd_int) snd_nil))) sgN)
  (snds_seq (snds_asg (snd_tup (snd_cons (snd_ix snd_var snd_int) (snd_cons (snd_ix snd_var snd_int) snd_nil))) sgN)
  (snds_seq (snds_asg (snd_tup (snd_cons (snd_ix snd_var snd_int) (snd_cons (snd_ix snd_var snd_int) snd_nil))) sgN)
  (snds_seq (snds_if (snd_orT (snd_notT (snd_tru (snd_call rfl (snd_cons snd_var (snd_cons (snd_ix snd_var snd_int) (snd_cons (snd_ix snd_var snd_int) snd_nil)))))) (snd_notT (snd_tru (snd_call rfl (snd_cons (snd_op1 (cbs_negOwn (c := "Share") rfl) snd_var) (snd_cons (snd_op1 (cbs_rd rd_neg) (snd_ix snd_var snd_int)) (snd_cons (snd_ix snd_var snd_int) snd_nil)))))))
  (snds_ret snd_bl) snds_skip)
  (snds_seq (snds_if (snd_orT (snd_notT (snd_tru (snd_call rfl (snd_cons snd_var (snd_cons snd_var (snd_cons snd_var (snd_cons snd_var snd_nil))))))) (snd_notT (snd_tru (snd_call rfl (snd_cons snd_var (snd_cons (snd_ix snd_var snd_int) (snd_cons snd_var (snd_cons (snd_tup (snd_cons (snd_ix snd_var snd_int) (snd_cons snd_int snd_nil))) snd_nil))))))))
  (snds_ret snd_bl) snds_skip)
  (snds_seq (snds_if (snd_notT (snd_tru (snd_call rfl (snd_cons (snd_makeK (c := "Share") (idx := [0, 1]) (dds := [(.int 1)]) rfl (fun _ => (.cons (.int _) .nil)) (snd_cons (snd_ix snd_var snd_int) snd_nil) snd_nil) (snd_cons (snd_ix snd_var snd_int) (snd_cons snd_int snd_nil))))))
  (snds_ret snd_bl) snds_skip)
  (snds_seq (snds_asg (snd_if (snd_test (snd_op2 (cbs_rd rd_gt) (snd_op2 (cbs_mk mk_mulU) (snd_ix snd_var snd_int) (snd_ix snd_var snd_int)) snd_int)) snd_int (snd_op1 (cbs_rd rd_neg) snd_int)) sgN)
  (snds_seq (snds_asg (snd_op2 (cbs_mk mk_mulU) (snd_op2 (cbs_rd rd_sub) (snd_op2 (cbs_mk mk_mulU) (snd_ix snd_var snd_int) (snd_ix snd_var snd_int)) (snd_op2 (cbs_mk mk_mulU) (snd_ix snd_var snd_int) (snd_ix snd_var snd_int))) snd_var) sgN)
  (snds_seq (snds_if (snd_orT (snd_test (snd_op2 (cbs_rd rd_ne) (snd_eqOwn (c := "Share") rfl snd_var snd_var) (snd_op2 (cbs_rd rd_eq) snd_var snd_int))) (snd_orT (snd_test (snd_op2 (cbs_rd rd_ne) (snd_meth (c := "Share") rfl snd_var (snd_cons snd_var snd_nil)) (snd_op2 (cbs_rd rd_lt) snd_var snd_int))) (snd_test (snd_op2 (cbs_rd rd_ne) (snd_meth (c := "Share") rfl snd_var (snd_cons snd_var snd_nil)) (snd_op2 (cbs_rd rd_gt) snd_var snd_int)))))
  (snds_ret snd_bl) snds_skip)
  (snds_seq (snds_asg (snd_if (snd_test (snd_op2 (cbs_rd rd_gt) (snd_ix snd_var snd_int) snd_int)) snd_int (snd_op1 (cbs_rd rd_neg) snd_int)) sgN)
  (snds_seq (snds_if (snd_test (snd_op2 (cbs_rd rd_ne) (snd_meth (c := "Share") rfl snd_var (snd_cons (snd_ix snd_var snd_int) snd_nil)) (snd_op2 (cbs_rd rd_lt) (snd_op2 (cbs_mk mk_mulU) (snd_op2 (cbs_rd rd_sub) (snd_ix snd_var snd_int) (snd_op2 (cbs_mk mk_mulU) (snd_ix snd_var snd_int) (snd_ix snd_var snd_int))) snd_var) snd_int)))
  (snds_ret snd_bl) snds_skip)
  (snds_for (snd_seqI (snd_lst (snd_cons (snd_ix snd_var snd_int) (snd_cons snd_non (snd_cons snd_str (snd_cons (snd_tup (snd_cons (snd_ix snd_var snd_int) (snd_cons (snd_ix snd_var snd_int) snd_nil))) (snd_cons snd_bl snd_nil))))))) sgN
  (snds_if (snd_test (snd_op2 (cbs_eqAny (c := "Share") rfl) snd_var snd_var))
  (snds_ret snd_bl) snds_skip)))))))))))))))))))
  (snds_seq (snds_if (snd_test (snd_op2 (cbs_rd rd_ne) (snd_methK (c := "Share") (dds := []) rfl (fun _ => .nil) snd_var snd_nil (snd_cons snd_var snd_nil)) (snd_meth (c := "Share") rfl snd_var (snd_cons snd_var snd_nil))))
  (snds_ret snd_bl) snds_skip)
  (snds_ret (snd_andV (snd_eqOwn (c := "Share") rfl (snd_makeK (c := "Share") (idx := [0, 1]) (dds := [(.int 1)]) rfl (fun _ => (.cons (.int _) .nil)) (snd_cons (snd_op2 (cbs_mk mk_mulU) (snd_ix snd_var snd_int) snd_int) (snd_cons (snd_op2 (cbs_mk mk_mulU) (snd_ix snd_var snd_int) snd_int) snd_nil)) snd_nil) snd_var) (snd_op2 (cbs_rd rd_isBl) (snd_meth (c := "Share") rfl snd_var (snd_cons snd_var snd_nil)) snd_bl)))))⟩)

end Law

namespace Law
open PySem PySem.Spec PyProof.Rows L2 Nd Vs
theorem law_facts {w : World} {K : PySem.W.Frag} {h : Heap} {mg : Str → Option Value} {f : Addr} (X : K.In h) (G : h.Ns mainGlobals mg) (hfa : mg ("law" : Str) = some (.ref f)) (c : Says K) :
    ∃ fd : FuncData, (∀ (s : Shared) (v : Value), BindsTo s fd ⟨[v], []⟩ [("_law_script", v)]) ∧ ∀ base : Heap, K.In base → base.Ns mainGlobals mg → FnG PP w K mg base (L2.CX PP w) 7 f fd ["_law_script"] (spV K 1 F_Law) := by
  obtain ⟨fd, F⟩ := c.d.def_ 19 (d := dLaw) rfl
  have e := hfa.symm.trans (He.glo_ok X G (c.d.fact 9 (f := .glo "law") rfl))
  cases e
  have b := FunD.bindsA (ps := ["_law_script"]) F fun _ _ _ _ _ _ us hl => match us, hl with | [_], _ => rfl
  exact ⟨fd, fun s v => b s [v] rfl, fun base _ _ => ok_Law F X G c⟩
end Law
open PySem PySem.W PySem.Calls PyProof.Rows
theorem PySem.Challenge.cw_neverowing_k02_shares_are_fractions_holds : PySem.Challenge.rw_neverowing_k02_shares_are_fractions.Holds := by
  w_on; o_law
  refine HandSHeadRun.head_any (r := Law.R) (q := view Law.R.prog [16]) (H := Law.hk) (ob := Law.ob) (M := 20000) (loose := Law.loose) (d := HandSHeadRun.topDef Law.R.prog 16) (kwd := []) Law.ob_eq
    (by kernel_rfl) (fun s => by kernel_rfl) Law.run (by kernel_rfl) (by kernel_rfl) (by kernel_rfl) (by rfl) (by first | assumption | decide +kernel) (by decide +kernel) ⟨rfl, rfl, rfl, rfl, rfl, by decide +kernel⟩ ?hw ?hc
  case hw => w_witness2
  case hc =>
    refine L2.walk_ofV (l := PySem.Challenge.rw_neverowing_k02_shares_are_fractions) (n := 63) (k := 7) (x := "_law_script") rfl (by decide) (by kernel_rfl) ⟨rfl, by decide, by decide⟩ ?F
    intro w mg fa h Y G hmg0
    obtain ⟨K, KX, c⟩ := Y
    have hmg : mg ("law" : PySem.Str) = some (.ref fa) := by
      have e : (HandSHeadRun.topDef Law.R.prog 16).name = ("law" : PySem.Str) := by kernel_rfl
      rw [← e]
      exact hmg0
    obtain ⟨fd, hb, hF⟩ := Law.law_facts (w := w) KX G hmg c
    exact ⟨K, fd, Vs.spV K 1 Law.F_Law, KX, hb, fun H a ns hl hS => Vs.law_sp hS (Law.law_true ns hl), hF⟩
